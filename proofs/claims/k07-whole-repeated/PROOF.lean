import PyProof.Rows.All
import Wide.All
import OpenK.AllK
import Wide.FinOn
import KE.KStateDown
import Lean
import HandS.ForMost
import HandS.ForExc
import HandS.Evl
import HandS.IsInst
import HandS.Wide
import HandS.Defaults
import HandS.Conv
import HandS.Head0
import HandS.Head1
import HandS.Head2
import HandS.HeadEnd
import HandS.HeadHook1
import HandS.HeadHook2
import HandS.Star
import HandS.Deep
import HandS.Style
import KE.KExcSuper
import HandS.ExcInit
import HandS.ExcField
import HandS.ExcIs
import HandS.HotCalls
import KE.KExcIs
import HandS.Property
import HandS.ForDict
import HandS.Text
import HandS.RaiseMore
import KE.GoesMore
import HandS.Conv
import HandS.IterVal
import HandS.ClsMeth
import HandS.OwnIter
import HandS.CallLocal
import HandS.TupLen
import HandS.DictComp
import PySem.Challenge.RW_murmurline_k07_whole_repeated
set_option Elab.async false
set_option linter.all false
set_option maxRecDepth 100000
set_option maxHeartbeats 4000000

namespace Mu
open PySem PySem.Spec PyProof.Rows L2 He
def neB (K : PySem.W.Frag) (C : Addr) : Bool := decide (PySem.W.findIn K (.ref C) "__ne__" = some (some (.builtin "object.__ne__"))) && decide (PySem.W.subIn K (.ref C) (.type "object") = some true)
abbrev FactB := PySem.W.Frag → Bool
abbrev FnS : Type := Option (Str × Str × Arguments × FuncBody × Scope × Addr × List Str × Addr)
def fnS (K : PySem.W.Frag) (p : Str × Option Str) : FnS := match K.lookup (fAd K p) with
  | some ⟨_, _, .func fd, _⟩ => some (fd.name, fd.qualname, fd.params, fd.body, fd.scope, fd.globals, fd.closure.map (·.1), fd.builtins)
  | _ => none
structure DefS where
  at_ : Str × Option Str
  name : Str
  qual : Str
  params : Arguments
  body : List Stmt
  scope : Scope
  cls : Str
  file : Str
def DefS.val (d : DefS) : FnS := some (d.name, d.qual, d.params, .stmts d.body, d.scope, mainGlobals, [("__class__" : Str)], builtinsNs)
def cellB (K : PySem.W.Frag) (cc D : Addr) : Bool := match K.lookup cc with
  | some ⟨_, _, .cell (some (.ref d)), _⟩ => d == D
  | _ => false
def fileB (K : PySem.W.Frag) (cda : Addr) (file : Str) : Bool := match K.lookup cda with
  | some ⟨_, _, .fields vs, _⟩ => (match (vs[2]? : Option Value) with | some (Value.str x _) => x == file | _ => false)
  | _ => false
def supB (K : PySem.W.Frag) (q : Str) (D : Addr) (file : Str) (cl : List (Str × Addr)) (cd : Value) : Bool := match cl, cd with
  | [(_, cc)], .ref cda => PySem.W.codeIn K (.ref cda) q && (cellB K cc D && fileB K cda file)
  | _, _ => false
def DefS.ok (K : PySem.W.Frag) (d : DefS) : Bool := PySem.W.keepIn K (.ref (fAd K d.at_)) && ((PySem.W.clsIn K (ga K d.cls)).isSome && (decide (PySem.W.nsIn K cStatics "thirdparty.any" = some none) && (match K.lookup (fAd K d.at_) with
  | some ⟨_, _, .func fd, _⟩ => decide (fd.defaults = Value.none) && supB K d.qual (ga K d.cls) d.file fd.closure fd.code
  | _ => false)))
abbrev AlS : Type := Bool × List FnW × List FnS
def obsS (fa : List Fa) (ex : List FactB) (fn : List DefD) (sn : List DefS) (K : PySem.W.Frag) : AlS := ((((fa.all fun f => f.ok K) && ex.all fun f => f K) && fn.all fun d => d.ok K) && sn.all fun d => d.ok K, fn.map fun d => fnW K d.at_, sn.map fun d => fnS K d.at_)
def valS (fn : List DefD) (sn : List DefS) : AlS := (true, fn.map DefD.val, sn.map DefS.val)
def SaysS (fa : List Fa) (ex : List FactB) (fn : List DefD) (sn : List DefS) (K : PySem.W.Frag) : Prop := obsS fa ex fn sn K = valS fn sn
def obsSG (n : Nat) (fa : List Fa) (ex : List FactB) (fn : List DefD) (sn : List DefS) (g : Addr → Option Obj) : AlS := obsS fa ex fn sn (frG g (cStatics :: asD g n))
def hookS (n : Nat) (fa : List Fa) (ex : List FactB) (fn : List DefD) (sn : List DefS) : PySem.W.Hook where
  α := AlS
  obs := fun s => obsSG n fa ex fn sn s.heap.get?
  val := fun _ => valS fn sn
  says := fun _ h => ∃ K : PySem.W.Frag, K.In h ∧ SaysS fa ex fn sn K
  of := fun _ _ e => ⟨_, frG_in, e⟩
  keeps := fun _ _ _ ⟨K, hK, c⟩ k => ⟨K, PySem.W.Frag.In.keeps hK k, c⟩
theorem obsSG_eq {n : Nat} {fa : List Fa} {ex : List FactB} {fn : List DefD} {sn : List DefS} {g : Addr → Option Obj} {s : Shared} (h : ∀ a, g a = s.heap.get? a) : obsSG n fa ex fn sn g = (hookS n fa ex fn sn).obs s := by
  have e : g = s.heap.get? := funext h
  rw [e] <;> rfl
def isCB (K : PySem.W.Frag) (C : Addr) : Bool := He.eqO (PySem.W.findIn K (.ref C) "__class__") (some (some (.builtin "object.__class__"))) && (He.eqO (PySem.W.specialIn K (.builtin "object.__class__") "__get__") (some (some (.builtin "getset_descriptor.__get__"))) &&
  (decide (PySem.W.takesIn K (.builtin "object.__class__") = some true) && decide (PySem.W.mroIn K C (.type "object") = some true)))
def oexB (K : PySem.W.Frag) (C : Addr) : Bool := (match K.lookup C with
  | some ⟨.type "type", _, .cls cd, sl⟩ => (match cd.mro, sl.toList with
    | .ref C' :: bm, [_, _, _, _, some (.builtin n), _] => C' == C && (n == "ValueError.__new__" && (!cd.hasDel && (cd.hasDict && PySem.HandSPX.refsVE bm)))
    | _, _ => false)
  | _ => false) && (He.eqO (PySem.W.findIn K (.ref C) "__setattr__") (some (some (.builtin "object.__setattr__"))) && (decide (PySem.W.subIn K (.ref C) (.type "BaseException") = some true) && (decide (PySem.W.typeIn K (.ref C) = some (.type "type")) && PySem.W.keepIn K (.ref C))))
def errB (K : PySem.W.Frag) (C fI : Addr) : Bool := oexB K C && (He.eqO (PySem.W.findIn K (.ref C) "__init__") (some (some (.ref fI))) && (decide (PySem.W.typeIn K (.ref fI) = some (.type "function")) && (decide (PySem.W.mroIn K C (.ref C) = some true) && (He.eqO (PySem.W.ks_superIn K C C "__init__") (some (some (.builtin "ValueError.__init__"))) &&
  (decide (PySem.W.subIn K (.ref C) (.type "ValueError") = some true) && (xfB K C && (He.eqO (PySem.W.findIn K (.ref C) "__class__") (some (some (.builtin "object.__class__"))) && (He.eqO (PySem.W.specialIn K (.builtin "object.__class__") "__get__") (some (some (.builtin "getset_descriptor.__get__"))) &&
  (decide (PySem.W.takesIn K (.builtin "object.__class__") = some true) && decide (PySem.W.mroIn K C (.type "object") = some true))))))))))
def isB (K : PySem.W.Frag) (C : Addr) : Bool := xfB K C && (He.eqO (PySem.W.findIn K (.ref C) "__class__") (some (some (.builtin "object.__class__"))) && (He.eqO (PySem.W.specialIn K (.builtin "object.__class__") "__get__") (some (some (.builtin "getset_descriptor.__get__"))) &&
  (decide (PySem.W.takesIn K (.builtin "object.__class__") = some true) && decide (PySem.W.mroIn K C (.type "object") = some true))))
def sgB (K : PySem.W.Frag) (cs : List Addr) (mu D : Addr) : Bool := isB K D && ((cs.all fun c => decide (PySem.W.kitOne K (.ref D) (.ref c) = some true) || decide (PySem.W.kitOne K (.ref D) (.ref c) = some false)) && (decide ((cs.filter fun c => decide (PySem.W.kitOne K (.ref D) (.ref c) = some true)).length = 1) &&
  (decide (PySem.W.kitOne K (.ref D) (.ref mu) = some true) && decide (PySem.W.kitOne K (.ref D) (.type "ValueError") = some true))))
def mkB (K : PySem.W.Frag) (C f : Addr) : Bool := PySem.W.makesIn K C && (He.eqO (PySem.W.findIn K (.ref C) "__init__") (some (some (.ref f))) && (PySem.W.isFn K (.ref f) && PySem.W.keepIn K (.ref C)))
def methB (K : PySem.W.Frag) (C : Addr) (m : Str) (f : Addr) : Bool := He.eqO (PySem.W.findIn K (.ref C) m) (some (some (.ref f))) && (PySem.W.isFn K (.ref f) && PySem.W.keepIn K (.ref f))
def supFB (K : PySem.W.Frag) (C D : Addr) (m : Str) (f : Addr) : Bool := decide (PySem.W.mroIn K C (.ref D) = some true) && He.eqO (PySem.W.ks_superIn K C D m) (some (some (.ref f)))
def pAd (K : PySem.W.Frag) (c f : Str) (T : String) : Addr := match PySem.W.findIn K (.ref (ga K c)) f with
  | some (some (.ref p)) => (match PySem.W.recIn K p T with
    | some (.ref g :: _) => g
    | _ => 0)
  | _ => 0
structure DefA where
  at_ : PySem.W.Frag → Addr
  name : Str
  qual : Str
  params : Arguments
  body : List Stmt
  scope : Scope
def fnA (K : PySem.W.Frag) (a : Addr) : FnW := match K.lookup a with
  | some ⟨_, _, .func fd, _⟩ => some (fd.name, fd.qualname, fd.params, fd.body, fd.scope, fd.globals, fd.closure, fd.builtins)
  | _ => none
def DefA.val (d : DefA) : FnW := some (d.name, d.qual, d.params, .stmts d.body, d.scope, mainGlobals, [], builtinsNs)
def DefA.ok (K : PySem.W.Frag) (d : DefA) : Bool := PySem.W.keepIn K (.ref (d.at_ K)) && (match K.lookup (d.at_ K) with
  | some ⟨_, _, .func fd, _⟩ => PySem.W.codeIn K fd.code d.qual && (dflB K fd.defaults [] && kwdB K fd.kwdefaults [])
  | _ => false)
abbrev AlP : Type := Bool × List FnW × List FnS × List FnW
def obsP (fa : List Fa) (ex : List FactB) (fn : List DefD) (sn : List DefS) (an : List DefA) (K : PySem.W.Frag) : AlP := (((((fa.all fun f => f.ok K) && ex.all fun f => f K) && fn.all fun d => d.ok K) && sn.all fun d => d.ok K) && an.all fun d => d.ok K, fn.map fun d => fnW K d.at_, sn.map fun d => fnS K d.at_, an.map fun d => fnA K (d.at_ K))
def valP (fn : List DefD) (sn : List DefS) (an : List DefA) : AlP := (true, fn.map DefD.val, sn.map DefS.val, an.map DefA.val)
def SaysP (fa : List Fa) (ex : List FactB) (fn : List DefD) (sn : List DefS) (an : List DefA) (K : PySem.W.Frag) : Prop := obsP fa ex fn sn an K = valP fn sn an
def obsPG (n : Nat) (fa : List Fa) (ex : List FactB) (fn : List DefD) (sn : List DefS) (an : List DefA) (g : Addr → Option Obj) : AlP := obsP fa ex fn sn an (frG g (cStatics :: asD g n))
def hookP (n : Nat) (fa : List Fa) (ex : List FactB) (fn : List DefD) (sn : List DefS) (an : List DefA) : PySem.W.Hook where
  α := AlP
  obs := fun s => obsPG n fa ex fn sn an s.heap.get?
  val := fun _ => valP fn sn an
  says := fun _ h => ∃ K : PySem.W.Frag, K.In h ∧ SaysP fa ex fn sn an K
  of := fun _ _ e => ⟨_, frG_in, e⟩
  keeps := fun _ _ _ ⟨K, hK, c⟩ k => ⟨K, PySem.W.Frag.In.keeps hK k, c⟩
theorem obsPG_eq {n : Nat} {fa : List Fa} {ex : List FactB} {fn : List DefD} {sn : List DefS} {an : List DefA} {g : Addr → Option Obj} {s : Shared} (h : ∀ a, g a = s.heap.get? a) : obsPG n fa ex fn sn an g = (hookP n fa ex fn sn an).obs s := by
  have e : g = s.heap.get? := funext h
  rw [e] <;> rfl
def propB (K : PySem.W.Frag) (C : Addr) (f : Str) (g : Addr) : Bool := match PySem.W.findIn K (.ref C) f with
  | some (some (.ref p)) => eqO (PySem.W.specialIn K (.ref p) "__get__") (some (some (.builtin "property.__get__"))) && (decide (PySem.W.takesIn K (.ref p) = some true) && (match PySem.W.recIn K p "property" with
    | some (.ref g' :: _) => g' == g
    | _ => false))
  | _ => false
def refQ (g : Addr → Option Obj) (a : Addr) : List Addr := match g a with
  | some o => refsD o
  | none => []
def lvA (g : Addr → Option Obj) (nm : List Str) : List Addr := nm.map (ga (frG g [mainGlobals]))
def lvB (g : Addr → Option Obj) (l1 : List Addr) : List Addr := (l1 ++ l1.flatMap (refQ g)).eraseDups
def lvC (g : Addr → Option Obj) (l2 : List Addr) (ds : List (Str × Option Str)) : List Addr := ds.map (fAd (frG g (mainGlobals :: l2)))
def conQ (nm : List Str) (ds : List (Str × Option Str)) (g : Addr → Option Obj) : List Addr := mainGlobals :: cStatics :: (lvB g (lvA g nm) ++ lvB g (lvB g (lvC g (lvB g (lvA g nm)) ds))).eraseDups
def hookSQ (nm : List Str) (ds : List (Str × Option Str)) (fa : List Fa) (ex : List FactB) (fn : List DefD) (sn : List DefS) : PySem.W.Hook where
  α := AlS
  obs := fun s => obsS fa ex fn sn (frG s.heap.get? (conQ nm ds s.heap.get?))
  val := fun _ => valS fn sn
  says := fun _ h => ∃ K : PySem.W.Frag, K.In h ∧ SaysS fa ex fn sn K
  of := fun _ _ e => ⟨_, frG_in, e⟩
  keeps := fun _ _ _ ⟨K, hK, c⟩ k => ⟨K, PySem.W.Frag.In.keeps hK k, c⟩
def obsSQ (nm : List Str) (ds : List (Str × Option Str)) (fa : List Fa) (ex : List FactB) (fn : List DefD) (sn : List DefS) (g : Addr → Option Obj) : AlS := obsS fa ex fn sn (frG g (conQ nm ds g))
theorem obsSQ_eq {nm : List Str} {ds : List (Str × Option Str)} {fa : List Fa} {ex : List FactB} {fn : List DefD} {sn : List DefS} {g : Addr → Option Obj} {s : Shared} (h : ∀ a, g a = s.heap.get? a) : obsSQ nm ds fa ex fn sn g = (hookSQ nm ds fa ex fn sn).obs s := by
  have e : g = s.heap.get? := funext h
  rw [e] <;> rfl
def hookPQ (nm : List Str) (ds : List (Str × Option Str)) (fa : List Fa) (ex : List FactB) (fn : List DefD) (sn : List DefS) (an : List DefA) : PySem.W.Hook where
  α := AlP
  obs := fun s => obsP fa ex fn sn an (frG s.heap.get? (conQ nm ds s.heap.get?))
  val := fun _ => valP fn sn an
  says := fun _ h => ∃ K : PySem.W.Frag, K.In h ∧ SaysP fa ex fn sn an K
  of := fun _ _ e => ⟨_, frG_in, e⟩
  keeps := fun _ _ _ ⟨K, hK, c⟩ k => ⟨K, PySem.W.Frag.In.keeps hK k, c⟩
def obsPQ (nm : List Str) (ds : List (Str × Option Str)) (fa : List Fa) (ex : List FactB) (fn : List DefD) (sn : List DefS) (an : List DefA) (g : Addr → Option Obj) : AlP := obsP fa ex fn sn an (frG g (conQ nm ds g))
theorem obsPQ_eq {nm : List Str} {ds : List (Str × Option Str)} {fa : List Fa} {ex : List FactB} {fn : List DefD} {sn : List DefS} {an : List DefA} {g : Addr → Option Obj} {s : Shared} (h : ∀ a, g a = s.heap.get? a) : obsPQ nm ds fa ex fn sn an g = (hookPQ nm ds fa ex fn sn an).obs s := by
  have e : g = s.heap.get? := funext h
  rw [e] <;> rfl
def crB (K : PySem.W.Frag) (C : Addr) : Bool := PySem.W.readsIn K C (.type "type") && eqO (PySem.W.specialIn K (.ref C) "__getattribute__") (some (some (.builtin "type.__getattribute__")))
def cfB (r : Option PySem.W.CFound) (id : String) (p C : Addr) : Bool := match r with
  | some (.get g a o t) => (g == .builtin id && a == .ref p) && (o == .none && t == .ref C)
  | _ => false
def cmB (K : PySem.W.Frag) (C : Addr) (m : Str) (g : Addr) : Bool := match PySem.W.findIn K (.ref C) m with
  | some (some (.ref p)) => cfB (PySem.W.findCls K (.ref C) (.type "type") m) "classmethod.__get__" p C && (PySem.W.fnIn K g && (match PySem.W.recIn K p "classmethod" with
    | some (.ref g' :: _) => g' == g
    | _ => false))
  | _ => false
def smB (K : PySem.W.Frag) (C : Addr) (m : Str) (g : Addr) : Bool := match PySem.W.findIn K (.ref C) m with
  | some (some (.ref p)) => cfB (PySem.W.findCls K (.ref C) (.type "type") m) "staticmethod.__get__" p C && (PySem.W.handedIn (.ref g) && (match PySem.W.recIn K p "staticmethod" with
    | some (.ref g' :: _) => g' == g
    | _ => false))
  | _ => false
def cvB (K : PySem.W.Frag) (C : Addr) (f : Str) (i : Int) : Bool := match PySem.W.findCls K (.ref C) (.type "type") f with
  | some (.val (.int j _)) => j == i
  | _ => false
end Mu

namespace MuL
open PySem PySem.Spec PyProof.Rows L2 He Evl Mu
def top (i : Nat) : Stmt := PySem.Challenge.pw_murmurline_k07_whole_repeated.main.body.getD i (.Pass ⟨0, 0, 0, 0⟩)
abbrev s_bits : Stmt := top 23
abbrev s_mask_of : Stmt := top 24
abbrev s_masks_of : Stmt := top 25
abbrev s_check_size : Stmt := top 35
abbrev s_image : Stmt := top 27
abbrev s_product : Stmt := top 28
abbrev s_Table___init__ : Stmt := inClass (top 41) 1
abbrev s_Table_rows : Stmt := inClass (top 41) 6
abbrev s_table_of_masks : Stmt := top 40
abbrev s_identity_masks : Stmt := top 26
abbrev s_power : Stmt := top 32
abbrev s_Table_repeated : Stmt := inClass (top 41) 8
abbrev s__law_box : Stmt := top 47
abbrev s__law_take : Stmt := top 48
abbrev s__law_words : Stmt := top 49
abbrev s__law_rows : Stmt := top 50
abbrev s__law_is_int : Stmt := top 51
abbrev s__law_is_words : Stmt := top 52
abbrev s__law_same : Stmt := top 53
abbrev s__law_join : Stmt := top 46
abbrev s__law_same_rows : Stmt := top 45
abbrev s__law_single : Stmt := top 44
abbrev s__law_count_error : Stmt := top 54
abbrev s__law_power : Stmt := top 55
abbrev s_law : Stmt := top 56
abbrev s_BadCount___init__ : Stmt := inClass (top 7) 0
def d_bits : He.DefD := ⟨("bits", none), "bits", "bits", defArgs s_bits, defBody s_bits, defScope s_bits, [], []⟩
def d_mask_of : He.DefD := ⟨("mask_of", none), "mask_of", "mask_of", defArgs s_mask_of, defBody s_mask_of, defScope s_mask_of, [], []⟩
def d_masks_of : He.DefD := ⟨("masks_of", none), "masks_of", "masks_of", defArgs s_masks_of, defBody s_masks_of, defScope s_masks_of, [], []⟩
def d_check_size : He.DefD := ⟨("check_size", none), "check_size", "check_size", defArgs s_check_size, defBody s_check_size, defScope s_check_size, [], []⟩
def d_image : He.DefD := ⟨("image", none), "image", "image", defArgs s_image, defBody s_image, defScope s_image, [], []⟩
def d_product : He.DefD := ⟨("product", none), "product", "product", defArgs s_product, defBody s_product, defScope s_product, [], []⟩
def d_Table___init__ : He.DefD := ⟨("Table", some "__init__"), "__init__", "Table.__init__", defArgs s_Table___init__, defBody s_Table___init__, defScope s_Table___init__, [], []⟩
def d_Table_rows : He.DefD := ⟨("Table", some "rows"), "rows", "Table.rows", defArgs s_Table_rows, defBody s_Table_rows, defScope s_Table_rows, [], []⟩
def d_table_of_masks : He.DefD := ⟨("table_of_masks", none), "table_of_masks", "table_of_masks", defArgs s_table_of_masks, defBody s_table_of_masks, defScope s_table_of_masks, [], []⟩
def d_identity_masks : He.DefD := ⟨("identity_masks", none), "identity_masks", "identity_masks", defArgs s_identity_masks, defBody s_identity_masks, defScope s_identity_masks, [], []⟩
def d_power : He.DefD := ⟨("power", none), "power", "power", defArgs s_power, defBody s_power, defScope s_power, [], []⟩
def d_Table_repeated : He.DefD := ⟨("Table", some "repeated"), "repeated", "Table.repeated", defArgs s_Table_repeated, defBody s_Table_repeated, defScope s_Table_repeated, [], []⟩
def d__law_box : He.DefD := ⟨("_law_box", none), "_law_box", "_law_box", defArgs s__law_box, defBody s__law_box, defScope s__law_box, [], []⟩
def d__law_take : He.DefD := ⟨("_law_take", none), "_law_take", "_law_take", defArgs s__law_take, defBody s__law_take, defScope s__law_take, [], []⟩
def d__law_words : He.DefD := ⟨("_law_words", none), "_law_words", "_law_words", defArgs s__law_words, defBody s__law_words, defScope s__law_words, [], []⟩
def d__law_rows : He.DefD := ⟨("_law_rows", none), "_law_rows", "_law_rows", defArgs s__law_rows, defBody s__law_rows, defScope s__law_rows, [], []⟩
def d__law_is_int : He.DefD := ⟨("_law_is_int", none), "_law_is_int", "_law_is_int", defArgs s__law_is_int, defBody s__law_is_int, defScope s__law_is_int, [], []⟩
def d__law_is_words : He.DefD := ⟨("_law_is_words", none), "_law_is_words", "_law_is_words", defArgs s__law_is_words, defBody s__law_is_words, defScope s__law_is_words, [], []⟩
def d__law_same : He.DefD := ⟨("_law_same", none), "_law_same", "_law_same", defArgs s__law_same, defBody s__law_same, defScope s__law_same, [], []⟩
def d__law_join : He.DefD := ⟨("_law_join", none), "_law_join", "_law_join", defArgs s__law_join, defBody s__law_join, defScope s__law_join, [], []⟩
def d__law_same_rows : He.DefD := ⟨("_law_same_rows", none), "_law_same_rows", "_law_same_rows", defArgs s__law_same_rows, defBody s__law_same_rows, defScope s__law_same_rows, [], []⟩
def d__law_single : He.DefD := ⟨("_law_single", none), "_law_single", "_law_single", defArgs s__law_single, defBody s__law_single, defScope s__law_single, [], []⟩
def d__law_count_error : He.DefD := ⟨("_law_count_error", none), "_law_count_error", "_law_count_error", defArgs s__law_count_error, defBody s__law_count_error, defScope s__law_count_error, [], []⟩
def d__law_power : He.DefD := ⟨("_law_power", none), "_law_power", "_law_power", defArgs s__law_power, defBody s__law_power, defScope s__law_power, [], []⟩
def d_law : He.DefD := ⟨("law", none), "law", "law", defArgs s_law, defBody s_law, defScope s_law, [], []⟩
def d_BadCount___init__ : Mu.DefS := ⟨("BadCount", some "__init__"), "__init__", "BadCount.__init__", defArgs s_BadCount___init__, defBody s_BadCount___init__, defScope s_BadCount___init__, "BadCount", "/claim/cut.py"⟩
def fa : List He.Fa := [.glo "Table", .cls "Table", .cls "Table", .noat "Table" "size", .noat "Table" "masks", .noat "Table" "cells", .glo "bits", .glo "mask_of", .glo "masks_of", .glo "check_size", .glo "image", .glo "product", .mkr "Table", .meth "Table" "rows", .glo "table_of_masks", .glo "identity_masks", .glo "power", .meth "Table" "repeated", .glo "_law_box", .glo "_law_take", .glo "_law_words", .glo "_law_rows", .glo "_law_is_int", .glo "_law_is_words", .glo "_law_same", .glo "_law_join", .glo "_law_same_rows", .glo "_law_single", .glo "_law_count_error", .glo "_law_power", .glo "law", .free "super", .glo "BadCount", .glo "BadSize", .glo "BadTable", .glo "UnknownWord", .glo "SizeMismatch", .glo "BadPerson", .glo "BadLetter", .glo "UnknownPerson", .glo "TooMany", .glo "BadPattern", .glo "SameWord", .glo "UnknownClue", .glo "BadPlace", .glo "TooLong", .glo "Melted", .glo "NothingToUndo", .glo "NothingToRedo", .glo "Refused", .glo "BadLine", .glo "MurmurError", .free "len", .free "range", .free "tuple", .free "list", .free "int", .free "abs", .free "enumerate", .free "isinstance", .free "bool", .free "str", .free "iter", .free "ValueError", .int "GREATEST_SIZE" 6]
def ex : List Mu.FactB := [(fun K => Mu.isCB K (ga K "Table")), (fun K => PySem.W.selfFirst K (ga K "Table")), (fun K => Mu.errB K (ga K "BadCount") (fAd K ("BadCount", some "__init__"))), (fun K => He.eqO (PySem.W.findIn K (.ref (ga K "BadCount")) "count") (some none)), (fun K => decide (PySem.W.exmOne K (.ref (ga K "BadCount")) (.ref (ga K "BadCount")) = some true)), (fun K => Mu.sgB K [ga K "BadSize", ga K "BadTable", ga K "UnknownWord", ga K "SizeMismatch", ga K "BadCount", ga K "BadPerson", ga K "BadLetter", ga K "UnknownPerson", ga K "TooMany", ga K "BadPattern", ga K "SameWord", ga K "UnknownClue", ga K "BadPlace", ga K "TooLong", ga K "Melted", ga K "NothingToUndo", ga K "NothingToRedo", ga K "Refused", ga K "BadLine"] (ga K "MurmurError") (ga K "BadCount"))]
def fn : List He.DefD := [d_bits, d_mask_of, d_masks_of, d_check_size, d_image, d_product, d_Table___init__, d_Table_rows, d_table_of_masks, d_identity_masks, d_power, d_Table_repeated, d__law_box, d__law_take, d__law_words, d__law_rows, d__law_is_int, d__law_is_words, d__law_same, d__law_join, d__law_same_rows, d__law_single, d__law_count_error, d__law_power, d_law]
def sn : List Mu.DefS := [d_BadCount___init__]
end MuL

set_option maxHeartbeats 0
namespace MuL
open PySem PySem.Spec PyProof.Rows L2 He Evl Mu
def nm0 : List Str := ["Table", "bits", "mask_of", "masks_of", "check_size", "image", "product", "table_of_masks", "identity_masks", "power", "_law_box", "_law_take", "_law_words", "_law_rows", "_law_is_int", "_law_is_words", "_law_same", "_law_join", "_law_same_rows", "_law_single", "_law_count_error", "_law_power", "law", "BadCount", "BadSize", "BadTable", "UnknownWord", "SizeMismatch", "BadPerson", "BadLetter"]
def nm1 : List Str := ["UnknownPerson", "TooMany", "BadPattern", "SameWord", "UnknownClue", "BadPlace", "TooLong", "Melted", "NothingToUndo", "NothingToRedo", "Refused", "BadLine", "MurmurError"]
def nm : List Str := nm0 ++ nm1
def ds0 : List (Str × Option Str) := [("Table", some "__init__"), ("Table", some "rows"), ("Table", some "repeated"), ("BadCount", some "__init__")]
def ds : List (Str × Option Str) := ds0
def loose0 : List Str := ["_wall", "MurmurError", "BadSize", "BadTable", "UnknownWord", "SizeMismatch", "BadCount", "BadPerson", "BadLetter", "UnknownPerson", "TooMany", "BadPattern", "SameWord", "UnknownClue", "BadPlace", "TooLong", "Melted", "NothingToUndo", "NothingToRedo", "Refused", "BadLine", "bits", "mask_of", "masks_of", "identity_masks", "image", "product", "converse", "greatest_behind", "greatest_ahead"]
def loose1 : List Str := ["power", "GREATEST_SIZE", "check_size", "check_word", "check_words", "check_sizes", "written", "table_of_masks", "Table", "product_inside", "_law_single", "_law_same_rows", "_law_join", "_law_box", "_law_take", "_law_words", "_law_rows", "_law_is_int", "_law_is_words", "_law_same", "_law_count_error", "_law_power"]
def loose : List Str := loose0 ++ loose1
abbrev R : PySem.W.OpenRow := PySem.W.OpenLaw.row PySem.Challenge.rw_murmurline_k07_whole_repeated
abbrev hk : PySem.W.Hook := Mu.hookSQ nm ds fa ex fn sn
def ob (s : PySem.W.SharedT) : Mu.AlS := Mu.obsSQ nm ds fa ex fn sn (HandSHeadRun.getT s)
theorem ob_eq (s : PySem.W.SharedT) : ob s = hk.obs s.abs := Mu.obsSQ_eq (HandSHeadRun.getT_eq s)
theorem run (w : World) : HandSHeadRun.RunEq R (PySem.W.view R.prog [56]) hk ob 40000 loose w := by
  intro os
  kernel_rfl
end MuL

set_option maxHeartbeats 4000000
namespace Mu
open PySem L2 Evl

/-! ### footprints: G is what is known for sure and never changed, H the heap; foreign things of H stay out of G -/
structure Gr (G H G2 H2 : Hp) : Prop where
  g : Ex G G2
  h : Ex H H2
  i : Ex G2 H2
  n : ∀ a o, H a = some o → G a = none → G2 a = none
theorem Gr.refl {G H : Hp} (e : Ex G H) : Gr G H G H := ⟨Ex.refl _, Ex.refl _, e, fun _ _ _ n => n⟩
theorem Gr.trans {G H G2 H2 G3 H3 : Hp} (a : Gr G H G2 H2) (b : Gr G2 H2 G3 H3) : Gr G H G3 H3 :=
  ⟨a.g.trans b.g, a.h.trans b.h, b.i, fun c o q z => b.n c o (a.h c o q) (a.n c o q z)⟩
theorem Gr.more {G H G2 H2 H3 : Hp} (a : Gr G H G2 H2) (e : Ex H2 H3) : Gr G H G2 H3 := ⟨a.g, a.h.trans e, a.i.trans e, a.n⟩
/-- a new object, within the footprint | outside it -/
theorem Gr.new {G H : Hp} {p : Addr} {o : HO} (e : Ex G H) (hp : H p = none) : Gr G H (upd G p o) (upd H p o) where
  g := Ex.new (fresh_back e hp)
  h := Ex.new hp
  i := fun a u z => by
    by_cases q : a = p
    · subst q
      rw [upd_same] at z ⊢
      exact z
    · rw [upd_ne q] at z ⊢
      exact e a u z
  n := fun a u z y => by rw [upd_ne (ne_of_none z hp)]; exact y
theorem Gr.out {G H : Hp} {p : Addr} {o : HO} (e : Ex G H) (hp : H p = none) : Gr G H G (upd H p o) := (Gr.refl e).more (Ex.new hp)
/-- two parts of one heap, together -/
def un (A B : Hp) : Hp := fun a => match A a with
  | some o => some o
  | none => B a
theorem un_l {A B : Hp} {a : Addr} {o : HO} (h : A a = some o) : un A B a = some o := by unfold un; rw [h]
theorem un_r {A B : Hp} {a : Addr} (h : A a = none) : un A B a = B a := by unfold un; rw [h]
theorem ex_un_l {A B : Hp} : Ex A (un A B) := fun _ _ h => un_l h
theorem ex_un_r {A B H : Hp} (ha : Ex A H) (hb : Ex B H) : Ex B (un A B) := fun a o h => by
  cases q : A a with
  | none => rw [un_r q]; exact h
  | some u =>
    have h1 := ha a u q
    have h2 := hb a o h
    rw [h1] at h2
    rw [un_l q]
    exact h2
theorem un_in {A B H : Hp} (ha : Ex A H) (hb : Ex B H) : Ex (un A B) H := fun a o h => by
  cases q : A a with
  | none => rw [un_r q] at h; exact hb a o h
  | some u => rw [un_l q] at h; exact ha a o (q.trans h)
theorem Gr.up {G G' H G2 H2 : Hp} (e : Ex G G') (e' : Ex G' H) (a : Gr G H G2 H2) : Gr G' H (un G' G2) H2 where
  g := ex_un_l
  h := a.h
  i := un_in (e'.trans a.h) a.i
  n := fun c o q z => by rw [un_r z]; exact a.n c o q (fresh_back e z)
theorem Gr.upr {G G' H G2 H2 : Hp} (e' : Ex G' H) (a : Gr G H G2 H2) : Ex G2 (un G' G2) := ex_un_r (e'.trans a.h) a.i

/-! ### what a value stands for -/
structure Rp where
  p : V → Hp → Prop
  mono : ∀ {v : V} {H H' : Hp}, Ex H H' → p v H → p v H'
abbrev RA (H : Hp) : List V → List Rp → Prop := Paired fun v r => r.p v H
theorem RA.mono {H H' : Hp} (e : Ex H H') : ∀ {vs : List V} {rs : List Rp}, RA H vs rs → RA H' vs rs
  | _, _, .nil => .nil
  | _, _, .cons (b := r) h t => .cons (r.mono e h) (RA.mono e t)
theorem RA.len {H : Hp} {vs : List V} {rs : List Rp} (h : RA H vs rs) : vs.length = rs.length := Paired.length h
theorem RA.get {H : Hp} : ∀ {vs : List V} {rs : List Rp} {i : Nat} {r : Rp}, RA H vs rs → rs[i]? = some r → ∃ v, vs[i]? = some v ∧ r.p v H
  | _, _, _, _, .nil, e => by simp at e
  | _, _, 0, _, .cons h t, e => by simp at e; subst e; exact ⟨_, rfl, h⟩
  | _, _, i + 1, r, .cons h t, e => by
    obtain ⟨v, h1, h2⟩ := RA.get (i := i) (r := r) t (by simpa using e)
    exact ⟨v, by simpa using h1, h2⟩
theorem RA.getV {H : Hp} : ∀ {vs : List V} {rs : List Rp} {i : Nat} {v : V}, RA H vs rs → vs[i]? = some v → ∃ r, rs[i]? = some r ∧ r.p v H
  | _, _, _, _, .nil, e => by simp at e
  | _, _, 0, _, .cons h t, e => by simp at e; subst e; exact ⟨_, rfl, h⟩
  | _, _, i + 1, v, .cons h t, e => by
    obtain ⟨r, h1, h2⟩ := RA.getV (i := i) (v := v) t (by simpa using e)
    exact ⟨r, by simpa using h1, h2⟩
theorem RA.snoc {H : Hp} {vs : List V} {rs : List Rp} {v : V} {r : Rp} (h : RA H vs rs) (q : r.p v H) : RA H (vs ++ [v]) (rs ++ [r]) := Paired.snoc h q
theorem RA.append {H : Hp} : ∀ {vs ws : List V} {rs ss : List Rp}, RA H vs rs → RA H ws ss → RA H (vs ++ ws) (rs ++ ss)
  | _, _, _, _, .nil, q => q
  | _, _, _, _, .cons h t, q => .cons h (RA.append t q)
theorem RA.set {H : Hp} {v : V} {r : Rp} (q : r.p v H) : ∀ {vs : List V} {rs : List Rp} (i : Nat), RA H vs rs → RA H (vs.set i v) (rs.set i r)
  | _, _, _, .nil => .nil
  | _, _, 0, .cons _ t => .cons q t
  | _, _, i + 1, .cons h t => .cons h (RA.set q i t)

def rV (v : V) : Rp := ⟨fun x _ => x = v, fun _ h => h⟩
abbrev rI (i : Int) : Rp := rV (.int i)
abbrev rB (b : Bool) : Rp := rV (.bl b)
abbrev rS (s : Str) : Rp := rV (.str s)
def rL (_K : PySem.W.Frag) (rs : List Rp) : Rp := ⟨fun v H => ∃ a vs, v = .ref a ∧ H a = some (.lst vs) ∧ RA H vs rs, fun e ⟨a, vs, h1, h2, h3⟩ => ⟨a, vs, h1, e _ _ h2, h3.mono e⟩⟩
section
variable (K : PySem.W.Frag)
/-- a list that may only be read (the script) -/
def rLs (rs : List Rp) : Rp := ⟨fun v H => ∃ a vs, v = .ref a ∧ SqL K H a vs ∧ RA H vs rs, fun e ⟨a, vs, h1, h2, h3⟩ => ⟨a, vs, h1, ex_l e h2, h3.mono e⟩⟩
def rT (rs : List Rp) : Rp := ⟨fun v H => ∃ a vs, v = .ref a ∧ SqT K H a vs ∧ RA H vs rs, fun e ⟨a, vs, h1, h2, h3⟩ => ⟨a, vs, h1, ex_t e h2, h3.mono e⟩⟩
/-- ints -/
abbrev nI (n : Nat) : Rp := rI (n : Int)
def rLn (l : List Nat) : Rp := rL K (l.map nI)
def rTn (l : List Nat) : Rp := rT K (l.map nI)
def rLL (l : List (List Nat)) : Rp := rL K (l.map (rLn K))
end
theorem ra_nats {H : Hp} : ∀ {l : List Nat}, RA H (l.map fun (n : Nat) => V.int (n : Int)) (l.map nI)
  | [] => .nil
  | _ :: r => .cons rfl (ra_nats (l := r))
theorem ra_vals {H : Hp} : ∀ {l : List V}, RA H l (l.map rV)
  | [] => .nil
  | _ :: r => .cons rfl (ra_vals (l := r))
theorem ra_nats_eq {H : Hp} : ∀ {l : List Nat} {vs : List V}, RA H vs (l.map nI) → vs = l.map fun (n : Nat) => V.int (n : Int)
  | [], _, .nil => rfl
  | n :: r, _, .cons h t => by
    have e1 := ra_nats_eq (l := r) t
    have e2 : _ = V.int (n : Int) := h
    rw [e1, e2]; rfl

/-! ### what a reading gives -/
def EvD (te : TE) (σ : L2.St) (G : Hp) (r : Rp) : Prop := ∀ H, Ex G H → ∀ Q : VK, (∀ v G2 H2, Gr G H G2 H2 → r.p v G2 → Q v H2) → te σ H Q
/-- a new list, not (yet) in the footprint -/
def EvN (te : TE) (σ : L2.St) (G : Hp) (rs : List Rp) : Prop := ∀ H, Ex G H → ∀ Q : VK, (∀ p vs G2 H2, Gr G H G2 H2 → H p = none → G2 p = none → H2 p = some (.lst vs) → RA G2 vs rs → Q (.ref p) H2) → te σ H Q
def EvAD (ta : TA) (σ : L2.St) (G : Hp) (rs : List Rp) : Prop := ∀ H, Ex G H → ∀ Q : List V → Hp → Prop, (∀ vs G2 H2, Gr G H G2 H2 → RA G2 vs rs → Q vs H2) → ta σ H Q
section
variable {σ : L2.St} {G G' : Hp} {te ta tb : TE} {r r1 r2 : Rp} {v w x y z : V} {K : PySem.W.Frag}
theorem EvD.mono (e : Ex G G') (h : EvD te σ G r) : EvD te σ G' r := fun H e' Q q =>
  h H (e.trans e') Q fun v G2 H2 g hp => q v (un G' G2) H2 (g.up e e') (r.mono (g.upr e') hp)
theorem EvN.mono {rs : List Rp} (e : Ex G G') (h : EvN te σ G rs) : EvN te σ G' rs := fun H e' Q q =>
  h H (e.trans e') Q fun p vs G2 H2 g hp gp h2 ra => q p vs (un G' G2) H2 (g.up e e') hp (by rw [un_r (fresh_back e' hp)]; exact gp) h2 (ra.mono (g.upr e'))
theorem EvAD.mono {ta : TA} {rs : List Rp} (e : Ex G G') (h : EvAD ta σ G rs) : EvAD ta σ G' rs := fun H e' Q q =>
  h H (e.trans e') Q fun vs G2 H2 g hp => q vs (un G' G2) H2 (g.up e e') (hp.mono (g.upr e'))
theorem Ev.d (h : Ev te σ G v) : EvD te σ G (rV v) := fun H e Q q => h H e Q fun H2 e2 => q v G H2 ((Gr.refl e).more e2) rfl
theorem EvD.ev (h : EvD te σ G (rV v)) : Ev te σ G v := fun H e Q q => h H e Q fun v' G2 H2 g (hv : v' = v) => by subst hv; exact q H2 g.h
theorem ed_var {i : Nat} (h : σ[i]? = some (some v)) (hr : r.p v G) : EvD (tVar i) σ G r := fun H e Q q => ⟨v, h, q v G H (Gr.refl e) hr⟩
theorem EvN.d {rs : List Rp} (h : EvN te σ G rs) : EvD te σ G (rL K rs) := fun H e Q q => h H e Q fun p vs G2 H2 g hp gp h2 ra => by
  have e2 : Ex (upd G2 p (.lst vs)) H2 := fun a u z => by
    by_cases c : a = p
    · subst c
      rw [upd_same] at z
      rw [h2]; exact z
    · rw [upd_ne c] at z
      exact g.i a u z
  refine q (.ref p) (upd G2 p (.lst vs)) H2 ⟨g.g.trans (Ex.new gp), g.h, e2, fun a u z y => ?_⟩ ⟨p, vs, rfl, upd_same, ra.mono (Ex.new gp)⟩
  rw [upd_ne (ne_of_none z hp)]
  exact g.n a u z y
/-! arguments -/
theorem ead_nil : EvAD tNil σ G [] := fun H e Q q => q [] G H (Gr.refl e) .nil
theorem ead_cons {tr : TA} {rs : List Rp} (h : EvD te σ G r) (hr : EvAD tr σ G rs) : EvAD (tCons te tr) σ G (r :: rs) := fun H e Q q =>
  h H e _ fun v G2 H2 g hv => (hr.mono g.g) H2 g.i _ fun vs G3 H3 g3 hvs => q (v :: vs) G3 H3 (g.trans g3) (.cons (r.mono g3.g hv) hvs)
/-! calls -/
def SpD (sp : Sp) (vs : List V) (G : Hp) (r : Rp) : Prop := ∀ H, Ex G H → ∀ Q : VK, (∀ v G2 H2, Gr G H G2 H2 → r.p v G2 → Q v H2) → ∀ E : XK, sp vs H Q E
def SpN (sp : Sp) (vs : List V) (G : Hp) (rs : List Rp) : Prop := ∀ H, Ex G H → ∀ Q : VK, (∀ p vs G2 H2, Gr G H G2 H2 → H p = none → G2 p = none → H2 p = some (.lst vs) → RA G2 vs rs → Q (.ref p) H2) → ∀ E : XK, sp vs H Q E
theorem ed_call {sp : Sp} {E : XK} {ta : TA} {rs : List Rp} (h : EvAD ta σ G rs) (hs : ∀ vs G2, Ex G G2 → RA G2 vs rs → SpD sp vs G2 r) : EvD (tCall sp [] E ta) σ G r := fun H e Q q =>
  h H e _ fun vs G2 H2 g hv => by
    rw [List.append_nil]
    exact hs vs G2 g.g hv H2 g.i Q (fun v G3 H3 g3 hv3 => q v G3 H3 (g.trans g3) hv3) E
theorem en_call {sp : Sp} {E : XK} {ta : TA} {rs ss : List Rp} (h : EvAD ta σ G rs) (hs : ∀ vs G2, Ex G G2 → RA G2 vs rs → SpN sp vs G2 ss) : EvN (tCall sp [] E ta) σ G ss := fun H e Q q =>
  h H e _ fun vs G2 H2 g hv => by
    rw [List.append_nil]
    exact hs vs G2 g.g hv H2 g.i Q (fun p ws G3 H3 g3 hp gp h3 ra => q p ws G3 H3 (g.trans g3) (fresh_back g.h hp) gp h3 ra) E
theorem ed_callB {rr : List V → Hp → VK → Prop} {ta : TA} {rs : List Rp} (h : EvAD ta σ G rs) (hs : ∀ vs G2 H, Ex G G2 → Ex G2 H → RA G2 vs rs → ∀ Q : VK, (∀ v G3 H3, Gr G2 H G3 H3 → r.p v G3 → Q v H3) → rr vs H Q) : EvD (tCB rr ta) σ G r := fun H e Q q =>
  h H e _ fun vs G2 H2 g hv => hs vs G2 H2 g.g g.i hv Q fun v G3 H3 g3 hv3 => q v G3 H3 (g.trans g3) hv3
theorem en_callB {rr : List V → Hp → VK → Prop} {ta : TA} {rs ss : List Rp} (h : EvAD ta σ G rs) (hs : ∀ vs G2 H, Ex G G2 → Ex G2 H → RA G2 vs rs → ∀ Q : VK, (∀ p ws G3 H3, Gr G2 H G3 H3 → H p = none → G3 p = none → H3 p = some (.lst ws) → RA G3 ws ss → Q (.ref p) H3) → rr vs H Q) : EvN (tCB rr ta) σ G ss := fun H e Q q =>
  h H e _ fun vs G2 H2 g hv => hs vs G2 H2 g.g g.i hv Q fun p ws G3 H3 g3 hp gp h3 ra => q p ws G3 H3 (g.trans g3) (fresh_back g.h hp) gp h3 ra
/-- operators -/
theorem ed_op {rr : R2} (ha : EvD ta σ G r1) (hb : EvD tb σ G r2) (hs : ∀ x y G2 H, Ex G G2 → Ex G2 H → r1.p x G2 → r2.p y G2 → ∀ Q : VK, (∀ v G3 H3, Gr G2 H G3 H3 → r.p v G3 → Q v H3) → rr x y H Q) : EvD (tOp rr ta tb) σ G r := fun H e Q q =>
  ha H e _ fun x G2 H2 g hx => (hb.mono g.g) H2 g.i _ fun y G3 H3 g3 hy => hs x y G3 H3 (g.g.trans g3.g) g3.i (r1.mono g3.g hx) hy Q fun v G4 H4 g4 hv => q v G4 H4 ((g.trans g3).trans g4) hv
theorem en_op {rr : R2} {ss : List Rp} (ha : EvD ta σ G r1) (hb : EvD tb σ G r2) (hs : ∀ x y G2 H, Ex G G2 → Ex G2 H → r1.p x G2 → r2.p y G2 → ∀ Q : VK, (∀ p ws G3 H3, Gr G2 H G3 H3 → H p = none → G3 p = none → H3 p = some (.lst ws) → RA G3 ws ss → Q (.ref p) H3) → rr x y H Q) : EvN (tOp rr ta tb) σ G ss := fun H e Q q =>
  ha H e _ fun x G2 H2 g hx => (hb.mono g.g) H2 g.i _ fun y G3 H3 g3 hy => hs x y G3 H3 (g.g.trans g3.g) g3.i (r1.mono g3.g hx) hy Q fun p ws G4 H4 g4 hp gp h4 ra => q p ws G4 H4 ((g.trans g3).trans g4) (fresh_back (g.h.trans g3.h) hp) gp h4 ra
/-- an operation whose answer is a plain value and that leaves the heap -/
theorem ev_op2 {rr : R2} (ha : EvD ta σ G r1) (hb : EvD tb σ G r2) (hs : ∀ x y H, r1.p x H → r2.p y H → ∀ Q : VK, Q z H → rr x y H Q) : Ev (tOp rr ta tb) σ G z := EvD.ev (ed_op ha hb fun x y G2 H _ e hx hy Q q => hs x y H (r1.mono e hx) (r2.mono e hy) Q (q z G2 H (Gr.refl e) rfl))
/-! items -/
theorem ed_ixT {rs : List Rp} {i : Nat} (ha : EvD ta σ G (rT K rs)) (hb : Ev tb σ G (.int (i : Int))) (hi : rs[i]? = some r) : EvD (tOp (rIxT K) ta tb) σ G r :=
  ed_op ha (Ev.d hb) fun x y G2 H _ e hx hy Q q => by
    obtain ⟨a, vs, rfl, h1, h2⟩ := hx
    obtain ⟨v, h3, h4⟩ := h2.get hi
    have hy' : y = .int (i : Int) := hy
    subst hy'
    exact ⟨a, vs, (i : Int), v, rfl, rfl, ex_t e h1, atI_nat h3, q v G2 H (Gr.refl e) h4⟩
theorem ed_ixL {rs : List Rp} {i : Nat} (ha : EvD ta σ G (rL K rs)) (hb : Ev tb σ G (.int (i : Int))) (hi : rs[i]? = some r) : EvD (tOp (rIxL K) ta tb) σ G r :=
  ed_op ha (Ev.d hb) fun x y G2 H _ e hx hy Q q => by
    obtain ⟨a, vs, rfl, h1, h2⟩ := hx
    obtain ⟨v, h3, h4⟩ := h2.get hi
    have hy' : y = .int (i : Int) := hy
    subst hy'
    exact ⟨a, vs, (i : Int), v, rfl, rfl, sq_of (e _ _ h1), atI_nat h3, q v G2 H (Gr.refl e) h4⟩
/-! len, list, tuple -/
def rTupO (K : PySem.W.Frag) : List V → Hp → VK → Prop := fun xs H Q => ∃ p ys, xs = [.ref p] ∧ ((SqL K H p ys ∧ ∀ l, H l = none → Q (.ref l) (upd H l (.tup ys))) ∨ (SqT K H p ys ∧ Q (.ref p) H))
theorem ev_lenL {rs : List Rp} {n : Nat} (h : EvD te σ G (rL K rs)) (hn : rs.length = n) : Ev (tCB (rLenS K) (tCons te tNil)) σ G (.int (n : Int)) := fun H e Q q =>
  h H e _ fun v G2 H2 g ⟨a, vs, hv, h1, h2⟩ => by
    subst hv
    refine ⟨a, vs, rfl, Or.inl (sq_of (g.i _ _ h1)), ?_⟩
    rw [h2.len, hn]
    exact q H2 g.h
theorem ev_lenT {rs : List Rp} {n : Nat} (h : EvD te σ G (rT K rs)) (hn : rs.length = n) : Ev (tCB (rLenS K) (tCons te tNil)) σ G (.int (n : Int)) := fun H e Q q =>
  h H e _ fun v G2 H2 g ⟨a, vs, hv, h1, h2⟩ => by
    subst hv
    refine ⟨a, vs, rfl, Or.inr (ex_t g.i h1), ?_⟩
    rw [h2.len, hn]
    exact q H2 g.h
theorem en_listL {rs : List Rp} (h : EvD te σ G (rL K rs)) : EvN (tCB (rListS K) (tCons te tNil)) σ G rs := fun H e Q q =>
  h H e _ fun v G2 H2 g ⟨a, vs, hv, h1, h2⟩ => by
    subst hv
    exact ⟨a, vs, rfl, Or.inl (sq_of (g.i _ _ h1)), fun l hl => q l vs G2 _ (g.more (Ex.new hl)) (fresh_back g.h hl) (fresh_back g.i hl) upd_same h2⟩
theorem en_listT {rs : List Rp} (h : EvD te σ G (rT K rs)) : EvN (tCB (rListS K) (tCons te tNil)) σ G rs := fun H e Q q =>
  h H e _ fun v G2 H2 g ⟨a, vs, hv, h1, h2⟩ => by
    subst hv
    exact ⟨a, vs, rfl, Or.inr (ex_t g.i h1), fun l hl => q l vs G2 _ (g.more (Ex.new hl)) (fresh_back g.h hl) (fresh_back g.i hl) upd_same h2⟩
theorem ed_tupL {rs : List Rp} (h : EvD te σ G (rL K rs)) : EvD (tCB (rTupO K) (tCons te tNil)) σ G (rT K rs) := fun H e Q q =>
  h H e _ fun v G2 H2 g ⟨a, vs, hv, h1, h2⟩ => by
    subst hv
    refine ⟨a, vs, rfl, Or.inl ⟨sq_of (g.i _ _ h1), fun l hl => ?_⟩⟩
    have g3 := Gr.new (o := .tup vs) g.i hl
    exact q (.ref l) _ _ (g.trans g3) ⟨l, vs, rfl, st_of upd_same, h2.mono g3.g⟩
/-! displays -/
theorem ed_tup {ta : TA} {rs : List Rp} (h : EvAD ta σ G rs) (hl : rs.length ≤ 100000) : EvD (tTup ta) σ G (rT K rs) := fun H e Q q =>
  h H e _ fun vs G2 H2 g hv => ⟨sz_of (by rw [hv.len]; exact hl), fun p hp => by
    have g3 := Gr.new (o := .tup vs) g.i hp
    exact q (.ref p) _ _ (g.trans g3) ⟨p, vs, rfl, st_of upd_same, hv.mono g3.g⟩⟩
theorem en_lst {ta : TA} {rs : List Rp} (h : EvAD ta σ G rs) (hl : rs.length ≤ 100000) : EvN (tLst ta) σ G rs := fun H e Q q =>
  h H e _ fun vs G2 H2 g hv => ⟨sz_of (by rw [hv.len]; exact hl), fun p hp => q p vs G2 _ (g.more (Ex.new hp)) (fresh_back g.h hp) (fresh_back g.i hp) upd_same hv⟩
end

/-! ### comprehensions -/
section
variable {σ : L2.St} {G : Hp} {te tl : TE} {t : TT} {K : PySem.W.Frag} {α : Type} {j : Nat} {vs : List Nat}
/-- between two turns: D the list that grows, outside the footprint -/
def Cm (G0 H0 : Hp) (Dl : Addr) (rs : List Rp) (H' : Hp) : Prop := H0 Dl = none ∧ ∃ G' ws, Gr G0 H0 G' H' ∧ G' Dl = none ∧ H' Dl = some (.lst ws) ∧ RA G' ws rs
theorem cm_turn {G0 H0 H' : Hp} {Dl : Addr} {rs : List Rp} {b : Bool} {r : Rp} {σ2 : L2.St} (hz : rs.length < 50000) (p : Cm G0 H0 Dl rs H') (ht : ∀ G1, Ex G0 G1 → Ex G1 H' → EvT t σ2 G1 b) (he : b = true → ∀ G1, Ex G0 G1 → Ex G1 H' → EvD te σ2 G1 r) :
    t σ2 H' fun b H3 => if b = true then te σ2 H3 fun y H4 => ∃ acc, H4 Dl = some (.lst acc) ∧ acc.length < sizeLine ∧ Cm G0 H0 Dl (rs ++ (if true = true then [r] else [])) (upd H4 Dl (.lst (acc ++ [y]))) else Cm G0 H0 Dl rs H3 := by
  obtain ⟨p1, G', ws, g, hG, hD, ra⟩ := p
  refine ht G' g.g g.i H' g.i _ fun H3 e3 => ?_
  cases b with
  | true =>
    show te σ2 H3 fun y H4 => _
    refine he rfl G' g.g g.i H3 (g.i.trans e3) _ fun y G4 H4 g4 hy => ⟨ws, g4.h _ _ (e3 _ _ hD), sz_lt (by rw [ra.len]; omega), p1, G4, ws ++ [y], ?_, g4.n _ _ (e3 _ _ hD) hG, upd_same, (ra.mono g4.g).snoc hy⟩
    have q := (g.more e3).trans g4
    exact ⟨q.g, Ex.mut q.h p1, Ex.mut q.i (g4.n _ _ (e3 _ _ hD) hG), q.n⟩
  | false =>
    show Cm G0 H0 Dl rs H3
    exact ⟨p1, G', ws, g.more e3, hG, e3 _ _ hD, ra⟩
theorem filter_take_succ {l : List α} {f : α → Bool} {rr : α → Rp} {i : Nat} {a : α} (h : l[i]? = some a) : ((l.take (i + 1)).filter f).map rr = ((l.take i).filter f).map rr ++ (if f a = true then [rr a] else []) := by
  rw [List.take_add_one, h, List.filter_append, List.map_append]
  congr 1
  cases q : f a <;> simp [q]
theorem cm_step {l : List α} {f : α → Bool} {rr : α → Rp} {G0 H0 H' : Hp} {Dl : Addr} {i : Nat} {a : α} {σ2 : L2.St} (h : l[i]? = some a) (hz : l.length ≤ 40000) (p : Cm G0 H0 Dl (((l.take i).filter f).map rr) H')
    (ht : ∀ G1, Ex G0 G1 → Ex G1 H' → EvT t σ2 G1 (f a)) (he : f a = true → ∀ G1, Ex G0 G1 → Ex G1 H' → EvD te σ2 G1 (rr a)) :
    t σ2 H' fun b H3 => if b = true then te σ2 H3 fun y H4 => ∃ acc, H4 Dl = some (.lst acc) ∧ acc.length < sizeLine ∧ Cm G0 H0 Dl (((l.take (i + 1)).filter f).map rr) (upd H4 Dl (.lst (acc ++ [y]))) else Cm G0 H0 Dl (((l.take (i + 1)).filter f).map rr) H3 := by
  rw [filter_take_succ h]
  have hl : (((l.take i).filter f).map rr).length < 50000 := by
    rw [List.length_map]
    have h1 := List.length_filter_le f (l.take i)
    have h2 := List.length_take_le i l
    have h3 : (l.take i).length ≤ l.length := by rw [List.length_take]; omega
    omega
  have z := cm_turn (t := t) (te := te) (r := rr a) (b := f a) hl p ht he
  cases q : f a with
  | true =>
    rw [q] at ht
    obtain ⟨p1, G', ws, g, hG, hD, ra⟩ := p
    refine ht G' g.g g.i H' g.i _ fun H3 e3 => ?_
    show te σ2 H3 fun y H4 => _
    refine he q G' g.g g.i H3 (g.i.trans e3) _ fun y G4 H4 g4 hy => ⟨ws, g4.h _ _ (e3 _ _ hD), sz_lt (by rw [ra.len]; omega), p1, G4, ws ++ [y], ?_, g4.n _ _ (e3 _ _ hD) hG, upd_same, (ra.mono g4.g).snoc hy⟩
    have q := (g.more e3).trans g4
    exact ⟨q.g, Ex.mut q.h p1, Ex.mut q.i (g4.n _ _ (e3 _ _ hD) hG), q.n⟩
  | false =>
    rw [q] at ht
    obtain ⟨p1, G', ws, g, hG, hD, ra⟩ := p
    refine ht G' g.g g.i H' g.i _ fun H3 e3 => ?_
    show Cm G0 H0 Dl (_ ++ []) H3
    rw [List.append_nil]
    exact ⟨p1, G', ws, g.more e3, hG, e3 _ _ hD, ra⟩
theorem cm_start {G0 H0 : Hp} {Dl : Addr} (e : Ex G0 H0) (h : H0 Dl = none) : Cm G0 H0 Dl [] (upd H0 Dl (.lst [])) := ⟨h, G0, [], Gr.out e h, fresh_back e h, upd_same, .nil⟩
theorem en_lcL (l : List α) (ρ : α → Rp) (f : α → Bool) (rr : α → Rp) (h : EvD tl σ G (rL K (l.map ρ))) (hz : l.length ≤ 40000) (hw : ∀ x, wipe ((wipe σ vs).set j (some x)) vs = wipe σ vs)
    (ht : ∀ a x G1, a ∈ l → Ex G G1 → (ρ a).p x G1 → EvT t ((wipe σ vs).set j (some x)) G1 (f a)) (he : ∀ a x G1, a ∈ l → f a = true → Ex G G1 → (ρ a).p x G1 → EvD te ((wipe σ vs).set j (some x)) G1 (rr a)) :
    EvN (tLc (iList K tl) (gName j) t te vs) σ G ((l.filter f).map rr) := fun H0 e Q q => h H0 e _ fun v G1 H1 g1 ⟨a, xs, hv, h1, h2⟩ => by
  subst hv
  refine ⟨a, rfl, ⟨xs, sq_of (g1.i _ _ h1)⟩, fun Dl hD => lc_list (xs := xs) (fun i H' => Cm G1 H1 Dl (((l.take i).filter f).map rr) H') (cm_start g1.i hD) (fun i H' _ p => ?_) (fun i x H' hi p => ⟨hw x, ?_⟩) (fun H' p => ?_)⟩
  · obtain ⟨_, G', ws, g, _, _, _⟩ := p
    exact sq_of ((g.g.trans g.i) _ _ h1)
  · obtain ⟨r, hr, hx⟩ := h2.getV hi
    rw [List.getElem?_map] at hr
    cases q2 : l[i]? with
    | none => rw [q2] at hr; cases hr
    | some b =>
      rw [q2] at hr
      have hr' : ρ b = r := Option.some.inj hr
      subst hr'
      have hm : b ∈ l := List.mem_of_getElem? q2
      exact cm_step q2 hz p (fun G2 e1 e2 => ht b x G2 hm (g1.g.trans e1) ((ρ b).mono e1 hx)) (fun hf G2 e1 e2 => he b x G2 hm hf (g1.g.trans e1) ((ρ b).mono e1 hx))
  · obtain ⟨p1, G', ws, g, hG, hD', ra⟩ := p
    have el : xs.length = l.length := by rw [h2.len, List.length_map]
    rw [el, List.take_length] at ra
    exact q Dl ws G' H' (g1.trans g) (fresh_back g1.h p1) hG hD' ra
theorem en_lcT (l : List α) (ρ : α → Rp) (f : α → Bool) (rr : α → Rp) (h : EvD tl σ G (rT K (l.map ρ))) (hz : l.length ≤ 40000) (hw : ∀ x, wipe ((wipe σ vs).set j (some x)) vs = wipe σ vs)
    (ht : ∀ a x G1, a ∈ l → Ex G G1 → (ρ a).p x G1 → EvT t ((wipe σ vs).set j (some x)) G1 (f a)) (he : ∀ a x G1, a ∈ l → f a = true → Ex G G1 → (ρ a).p x G1 → EvD te ((wipe σ vs).set j (some x)) G1 (rr a)) :
    EvN (tLc (iTup K tl) (gName j) t te vs) σ G ((l.filter f).map rr) := fun H0 e Q q => h H0 e _ fun v G1 H1 g1 ⟨a, xs, hv, h1, h2⟩ => by
  subst hv
  refine ⟨a, rfl, ⟨xs, ex_t g1.i h1⟩, fun Dl hD => lc_tup (xs := xs) (fun i H' => Cm G1 H1 Dl (((l.take i).filter f).map rr) H') (cm_start g1.i hD) (fun i H' _ p => ?_) (fun i x H' hi p => ⟨hw x, ?_⟩) (fun H' p => ?_)⟩
  · obtain ⟨_, G', ws, g, _, _, _⟩ := p
    exact ex_t (g.g.trans g.i) h1
  · obtain ⟨r, hr, hx⟩ := h2.getV hi
    rw [List.getElem?_map] at hr
    cases q2 : l[i]? with
    | none => rw [q2] at hr; cases hr
    | some b =>
      rw [q2] at hr
      have hr' : ρ b = r := Option.some.inj hr
      subst hr'
      have hm : b ∈ l := List.mem_of_getElem? q2
      exact cm_step q2 hz p (fun G2 e1 e2 => ht b x G2 hm (g1.g.trans e1) ((ρ b).mono e1 hx)) (fun hf G2 e1 e2 => he b x G2 hm hf (g1.g.trans e1) ((ρ b).mono e1 hx))
  · obtain ⟨p1, G', ws, g, hG, hD', ra⟩ := p
    have el : xs.length = l.length := by rw [h2.len, List.length_map]
    rw [el, List.take_length] at ra
    exact q Dl ws G' H' (g1.trans g) (fresh_back g1.h p1) hG hD' ra
theorem range_get {n i : Nat} (h : i < n) : (List.range n)[i]? = some i := by rw [List.getElem?_range h]
theorem en_lcR {ta : TA} (n : Nat) (f : Nat → Bool) (rr : Nat → Rp) (h : EvA ta σ G [.int (n : Int)]) (hz : n ≤ 40000) (hw : ∀ x, wipe ((wipe σ vs).set j (some x)) vs = wipe σ vs)
    (ht : ∀ (a : Nat) G1, a < n → Ex G G1 → EvT t ((wipe σ vs).set j (some (.int (a : Int)))) G1 (f a)) (he : ∀ (a : Nat) G1, a < n → f a = true → Ex G G1 → EvD te ((wipe σ vs).set j (some (.int (a : Int)))) G1 (rr a)) :
    EvN (tLc (iRng1 ta) (gName j) t te vs) σ G (((List.range n).filter f).map rr) := fun H0 e Q q => h H0 e _ fun H1 e1 => by
  refine ⟨(n : Int), rfl, by omega, by omega, fun Dl hD => ?_⟩
  have g1 := (Gr.refl e).more e1
  rw [Int.toNat_natCast]
  refine lc_range (lo := 0) (n := n) (fun i H' => Cm G H1 Dl ((((List.range n).take i).filter f).map rr) H') (cm_start g1.i hD) (fun i H' hi p => ?_) (fun H' p => ?_)
  · have e0 : (0 : Int) + (i : Int) = (i : Int) := Int.zero_add _
    rw [e0]
    exact ⟨hw _, cm_step (range_get hi) (by rw [List.length_range]; exact hz) p (fun G2 e1 e2 => ht i G2 hi e1) (fun hf G2 e1 e2 => he i G2 hi hf e1)⟩
  · obtain ⟨p1, G', ws, g, hG, hD', ra⟩ := p
    have el : (List.range n).length = n := List.length_range
    rw [show (List.range n).take n = List.range n by rw [List.take_of_length_le (by rw [el]; omega)]] at ra
    exact q Dl ws G' H' (g1.trans (⟨g.g, g.h, g.i, g.n⟩ : Gr G H1 G' H')) (fresh_back e1 p1) hG hD' ra
theorem yes_T {b : Bool} (h : b = true) : EvT tYes σ G b := fun H e Q q => by subst h; exact q H (Ex.refl H)
theorem en_is {rs ss : List Rp} (h : EvN te σ G rs) (e : rs = ss) : EvN te σ G ss := e ▸ h
theorem ed_is {r s : Rp} (h : EvD te σ G r) (e : r = s) : EvD te σ G s := e ▸ h
end

/-! ### statements, from a footprint -/
section
variable {σ : L2.St} {G H : Hp} {te ta : TE} {t : TT} {K : PySem.W.Frag} {D : Ends} {tu tw : TS} {v : V} {r : Rp} {i : Nat}
theorem s_set (e : Ex G H) (h : Ev te σ G v) (k : ∀ H1, Ex H H1 → D.nx (σ.set i (some v)) H1) : tAsg te (gName i) D σ H := h H e _ fun H1 e1 => k H1 e1
theorem s_setD (e : Ex G H) (h : EvD te σ G r) (k : ∀ v G2 H2, Gr G H G2 H2 → r.p v G2 → D.nx (σ.set i (some v)) H2) : tAsg te (gName i) D σ H := h H e _ k
theorem s_setN {rs : List Rp} (e : Ex G H) (h : EvN te σ G rs) (k : ∀ p vs G2 H2, Gr G H G2 H2 → H p = none → G2 p = none → H2 p = some (.lst vs) → RA G2 vs rs → D.nx (σ.set i (some (.ref p))) H2) : tAsg te (gName i) D σ H := h H e _ k
theorem s_retE (e : Ex G H) (h : Ev te σ G v) (k : ∀ H1, Ex H H1 → D.rt v H1) : tRet te D σ H := h H e _ k
theorem s_retD (e : Ex G H) (h : EvD te σ G r) (k : ∀ v G2 H2, Gr G H G2 H2 → r.p v G2 → D.rt v H2) : tRet te D σ H := h H e _ k
theorem s_retN {rs : List Rp} (e : Ex G H) (h : EvN te σ G rs) (k : ∀ p vs G2 H2, Gr G H G2 H2 → H p = none → G2 p = none → H2 p = some (.lst vs) → RA G2 vs rs → D.rt (.ref p) H2) : tRet te D σ H := h H e _ k
theorem s_ifE {b : Bool} (e : Ex G H) (h : EvT t σ G b) (h1 : b = true → ∀ H1, Ex H H1 → tu D σ H1) (h2 : b = false → ∀ H1, Ex H H1 → tw D σ H1) : tIfS t tu tw D σ H := h H e _ fun H1 e1 => by
  cases b with
  | true =>
    show tu D σ H1
    exact h1 rfl H1 e1
  | false =>
    show tw D σ H1
    exact h2 rfl H1 e1
/-- a call for its doing -/
theorem s_doE (e : Ex G H) (h : Ev te σ G v) (k : ∀ H1, Ex H H1 → D.nx σ H1) : tDrop te D σ H := h H e _ k
/-- xs.append(e), xs a list of our own -/
theorem s_appD {p : Addr} {ws : List V} {rs : List Rp} (e : Ex G H) (hp : H p = some (.lst ws)) (gp : G p = none) (ra : RA G ws rs) (hv : Ev ta σ G (.ref p)) (h : EvD te σ G r) (hz : rs.length < 50000)
    (k : ∀ ws' G2 H2, Ex G G2 → (∀ a o, H a = some o → a ≠ p → H2 a = some o) → Ex G2 H2 → (∀ a o, H a = some o → G a = none → G2 a = none) → G2 p = none → H2 p = some (.lst ws') → RA G2 ws' (rs ++ [r]) → D.nx σ H2) :
    tDrop (tBM K "list" rAppend ta (tCons te tNil)) D σ H := hv H e _ fun H1 e1 => ⟨Or.inl ⟨rfl, ws, sq_of (e1 p _ hp)⟩, h H1 (e.trans e1) _ fun v G2 H2 g hv2 => by
  have h2 := g.h p _ (e1 p _ hp)
  have g2 : G2 p = none := g.n p _ (e1 p _ hp) gp
  refine ⟨p, ws, v, rfl, rfl, h2, sz_lt (by rw [ra.len]; omega), k (ws ++ [v]) G2 _ g.g (fun a o z n => ?_) (Ex.mut g.i g2) (fun a o z n => g.n a o (e1 a o z) n) g2 upd_same ((ra.mono g.g).snoc hv2)⟩
  rw [upd_ne n]
  exact g.h a o (e1 a o z)⟩
end
end Mu

namespace Mu
open PySem PySem.Spec PyProof.Rows L2 Evl
/-! ### operators of one's own: the special methods of an instance -/
section
variable {X : Cx} {CX : CXT} {k : Nat} {f C : Addr} {fd : FuncData} {ps : List Str} {sp : Sp} {E : XK}
/-- the callee runs, somewhere below this body -/
theorem run_fnA {A : Around} {pins : List (Addr × Obj)} {σ : L2.St} {H : Hp} {s : Shared} {Q : VK} {us : List Value} {vs : List V} (hA : A.frames = X.A.frames) (F : FnOk X.prog X.w X.K X.mg X.base CX k f fd ps sp) (hr : Room k A) (hb : Binds X.K fd ps []) (hx : Passes CX X E)
    (I : Inv X pins σ H s) (r : Vals vs us) (h : sp vs H Q E) : wpAny (model X.prog X.w) A (call (.ref f) us) (EP X pins σ Q) X.xe s := by
  have hl : (us ++ []).length = ps.length := by rw [List.append_nil, ← r.length]; exact F.len _ _ _ _ h
  have e := I.env0
  have e0 : Env0 X.prog X.w X.K X.mg X.base A X.stack s H := ⟨by rw [hA]; exact e.frames, e.mod, e.bs, e.bsz, e.funs, e.frf, e.hok, e.bare⟩
  have hbb := hb s us I.kIn hl
  rw [List.append_nil] at hbb
  refine wpAny_call (codeAny_mono (F.run A X.stack s H ⟨us, []⟩ us vs Q E hr e0 hbb r h) fun r s' hq => ?_)
  cases r with
  | error e => exact hx pins σ H s e s' I hq
  | ok fl =>
    cases fl with
    | ret u => exact I.after hq
    | next => exact False.elim hq
    | brk => exact False.elim hq
    | cont => exact False.elim hq
theorem ep_back {pins : List (Addr × Obj)} {σ : L2.St} {Q : VK} {u : Value} {s' : Shared} (h : EP X pins σ Q u s') : PySem.W.CmpBack (EP X pins σ Q) u s' := by
  obtain ⟨v, H', I, r, q⟩ := id h
  cases v with
  | non => cases (show u = Value.none from r); exact h
  | bl b => cases (show u = Value.bool b from r); exact h
  | int i => obtain ⟨t, e⟩ := (show ∃ t, u = Value.int i t from r); subst e; exact h
  | str i => obtain ⟨t, e⟩ := (show ∃ t, u = Value.str i t from r); subst e; exact h
  | byt i => obtain ⟨t, e⟩ := (show ∃ t, u = Value.bytes i t from r); subst e; exact h
  | flt i => obtain ⟨t, e⟩ := (show ∃ t, u = Value.float i t from r); subst e; exact h
  | ref a => cases (show u = Value.ref a from r); exact h
  | ty n => cases (show u = Value.type n from r); exact h
/-- a special method stands in the class -/
structure Dun (K : PySem.W.Frag) (C : Addr) (m : Str) (f : Addr) : Prop where
  at_ : PySem.W.findIn K (.ref C) m = some (some (.ref f))
  fn : PySem.W.isFn K (.ref f) = true
def rOwn2 (C : Addr) (sp : Sp) (E : XK) : R2 := fun x y H Q => ∃ a b dx fs dy gs, x = .ref a ∧ y = .ref b ∧ H a = some (.ins C dx fs) ∧ H b = some (.ins C dy gs) ∧ sp [.ref a, .ref b] H Q E
theorem op_own {op : Operator} {m : Str} (hm : PySem.dunder op.info.2 = m) (d : Dun X.K C m f) (hc : PySem.W.selfFirst X.K C = true) (F : FnOk X.prog X.w X.K X.mg X.base CX k f fd ps sp) (hr : Room k X.A) (hb : Binds X.K fd ps []) (hx : Passes CX X E) : OpR X (binaryOp op) (rOwn2 C sp E) := by
  intro pins s σ H x y u v Q I rx ry h
  obtain ⟨a, b, dx, fs, dy, gs, rfl, rfl, ha, hb', q⟩ := h
  cases rx
  cases ry
  obtain ⟨mA, J, _⟩ := ins_get I.hok ha
  obtain ⟨mB, J', _⟩ := ins_get I.hok hb'
  obtain ⟨od, J, _⟩ := J.look
  obtain ⟨od', J', _⟩ := J'.look
  obtain ⟨m0, hF⟩ := I.fr
  subst hm
  refine PySem.W.binop_K hF I.ok.mod.kin J J'.type hc d.at_ d.fn ?_
  exact wpAny_mono (run_fnA (vs := [.ref a, .ref b]) rfl F hr hb hx I (.cons rfl (.cons rfl .nil)) q) (fun u s' h => ep_back h) (fun _ _ z => z)
theorem cmp_own {op : CmpOp} {m : Str} (hm : (cmpInfo op).2.1 = m) (hop : ∀ a b, compareOp op a b = richCompare op a b) (d : Dun X.K C m f) (F : FnOk X.prog X.w X.K X.mg X.base CX k f fd ps sp) (hr : Room k X.A) (hb : Binds X.K fd ps []) (hx : Passes CX X E) : OpR X (compareOp op) (rOwn2 C sp E) := by
  intro pins s σ H x y u v Q I rx ry h
  obtain ⟨a, b, dx, fs, dy, gs, rfl, rfl, ha, hb', q⟩ := h
  cases rx
  cases ry
  obtain ⟨mA, J, _⟩ := ins_get I.hok ha
  obtain ⟨mB, J', _⟩ := ins_get I.hok hb'
  obtain ⟨od, J, _⟩ := J.look
  obtain ⟨od', J', _⟩ := J'.look
  obtain ⟨m0, hF⟩ := I.fr
  subst hm
  rw [hop]
  refine PySem.W.cmp_K (tb := .ref C) hr.units0 hF I.ok.mod.kin J J'.type (by simp [PySem.W.notFirst]) d.at_ d.fn ?_
  exact wpAny_mono (run_fnA (vs := [.ref a, .ref b]) rfl F hr hb hx I (.cons rfl (.cons rfl .nil)) q) (fun u s' h => ep_back h) (fun _ _ z => z)
def rOwn1 (C : Addr) (sp : Sp) (E : XK) : V → Hp → VK → Prop := fun x H Q => ∃ a dx fs, x = .ref a ∧ H a = some (.ins C dx fs) ∧ sp [.ref a] H Q E
theorem inv_own (d : Dun X.K C "__invert__" f) (F : FnOk X.prog X.w X.K X.mg X.base CX k f fd ps sp) (hr : Room k X.A) (hb : Binds X.K fd ps []) (hx : Passes CX X E) : UnR X (unaryOp .Invert) (rOwn1 C sp E) := by
  intro pins s σ H x u Q I rx h
  obtain ⟨a, dx, fs, rfl, ha, q⟩ := h
  cases rx
  obtain ⟨mA, J, _⟩ := ins_get I.hok ha
  obtain ⟨od, J, _⟩ := J.look
  obtain ⟨m0, hF⟩ := I.fr
  exact PySem.W.ksp_inv hF I.ok.mod.kin J d.at_ d.fn (run_fnA (vs := [.ref a]) rfl F hr hb hx I (.cons rfl .nil) q)
/-- o[i] -/
def rOwnIx (C : Addr) (sp : Sp) (E : XK) : R2 := fun x y H Q => ∃ a dx fs, x = .ref a ∧ H a = some (.ins C dx fs) ∧ sp [.ref a, y] H Q E
theorem pe_ixOwn {a b : Expr} {ta tb : TE} {pos : Pos} (d : Dun X.K C "__getitem__" f) (hfi : PySem.W.fnIn X.K f = true) (F : FnOk X.prog X.w X.K X.mg X.base CX k f fd ps sp) (hr : Room (k + 1) X.A) (hb : Binds X.K fd ps []) (hx : Passes CX X E) (ha : PE X a ta) (hbe : PE X b tb)
    (hsl : ∀ o i, subscripted b true o i = runValue (.builtin "lifetime.subscript" ⟨[o, i], []⟩) := by intro _ _; with_unfolding_all rfl) : PE X (.Subscript a b pos) (tOp (rOwnIx C sp E) ta tb) := by
  refine ⟨fun pins s σ H Q I h => ?_⟩
  refine Subscript_ (binT ha hbe I h fun v u s2 x y H2 I2 rx ry q => ?_)
  obtain ⟨p, dx, fs, rfl, hp, q⟩ := q
  cases rx
  obtain ⟨mA, J, _⟩ := ins_get I2.hok hp
  obtain ⟨od, J, _⟩ := J.look
  obtain ⟨m0, hF⟩ := I2.fr
  exact PySem.W.sub_K hF I2.ok.mod.kin J d.at_ hfi d.fn (run_fnA (vs := [.ref p, y]) rfl F hr.in1 hb hx I2 (.cons rfl (.cons ry .nil)) q) (hsl _ _)
/-- v in o -/
def rOwnIn (C : Addr) (neg : Bool) (sp : Sp) (E : XK) : R2 := fun x y H Q => ∃ a dx fs, y = .ref a ∧ H a = some (.ins C dx fs) ∧ sp [.ref a, x] H (fun v H' => ∃ b, v = .bl b ∧ Q (.bl (if neg then !b else b)) H') E
theorem in_own (d : Dun X.K C "__contains__" f) (F : FnOk X.prog X.w X.K X.mg X.base CX k f fd ps sp) (hr : Room k X.A) (hb : Binds X.K fd ps []) (hx : Passes CX X E) : OpR X (compareOp .In) (rOwnIn C false sp E) := by
  intro pins s σ H x y u v Q I rx ry h
  obtain ⟨a, dx, fs, rfl, ha, q⟩ := h
  cases ry
  obtain ⟨mA, J, _⟩ := ins_get I.hok ha
  obtain ⟨od, J, _⟩ := J.look
  obtain ⟨m0, hF⟩ := I.fr
  refine PySem.W.in_K hF I.ok.mod.kin J d.at_ d.fn (wpAny_mono (run_fnA (vs := [.ref a, x]) rfl F hr hb hx I (.cons rfl (.cons rx .nil)) q) (fun w s' h => ?_) (fun _ _ z => z))
  obtain ⟨z, H', I', rz, b, rfl, q'⟩ := h
  cases (show w = Value.bool b from rz)
  exact wpAny_truthy_bool ⟨.bl b, H', I', rfl, q'⟩
theorem notIn_own (d : Dun X.K C "__contains__" f) (F : FnOk X.prog X.w X.K X.mg X.base CX k f fd ps sp) (hr : Room k X.A) (hb : Binds X.K fd ps []) (hx : Passes CX X E) : OpR X (compareOp .NotIn) (rOwnIn C true sp E) := by
  intro pins s σ H x y u v Q I rx ry h
  obtain ⟨a, dx, fs, rfl, ha, q⟩ := h
  cases ry
  obtain ⟨mA, J, _⟩ := ins_get I.hok ha
  obtain ⟨od, J, _⟩ := J.look
  obtain ⟨m0, hF⟩ := I.fr
  refine PySem.W.notIn_K hF I.ok.mod.kin J d.at_ d.fn (wpAny_mono (run_fnA (vs := [.ref a, x]) rfl F hr hb hx I (.cons rfl (.cons rx .nil)) q) (fun w s' h => ?_) (fun _ _ z => z))
  obtain ⟨z, H', I', rz, b, rfl, q'⟩ := h
  cases (show w = Value.bool b from rz)
  exact wpAny_truthy_bool ⟨.bl (!b), H', I', rfl, q'⟩
end
/-! ### an instance called -/
section
variable {X : Cx} {CX : CXT} {k : Nat} {f C : Addr} {fd : FuncData} {ps : List Str} {sp : Sp} {E : XK} {e fe : Expr} {es : List Expr} {tf : TE} {t : TA} {pos : Pos}
def tCallOwn (C : Addr) (sp : Sp) (E : XK) (tf : TE) (t : TA) : TE := fun σ H Q => tf σ H fun y H1 => ∃ a, y = V.ref a ∧ t σ H1 fun vs H2 => (∃ dx fs, H2 a = some (.ins C dx fs)) ∧ sp (V.ref a :: vs) H2 Q E
theorem fnR_of (F : FnOk X.prog X.w X.K X.mg X.base CX k f fd ps sp) (hb : Binds X.K fd ps []) : FnR X.prog X.w X.K X.mg X.base CX k f sp := fun A outer s H us vs Q E hr e0 r h => by
  have hl : (us ++ []).length = ps.length := by rw [List.append_nil, ← r.length]; exact F.len _ _ _ _ h
  have kin : X.K.In s.heap := e0.mod.kin.keeps fun b o z => (e0.bs b o z).1
  have hbb := hb s us kin hl
  rw [List.append_nil] at hbb
  exact F.run A outer s H ⟨us, []⟩ us vs Q E hr e0 hbb r h
theorem pe_callOwn (hf : PE X fe tf) (d : Dun X.K C "__call__" f) (hfi : PySem.W.fnIn X.K f = true) (F : FnOk X.prog X.w X.K X.mg X.base CX k f fd ps sp) (hr : Room k X.A) (hb : Binds X.K fd ps []) (hx : Passes CX X E) (ha : PA X (e :: es) t)
    (ht : eval (.Call fe (e :: es) [] pos) X.env = (do callWith pos (← eval fe X.env) [] (backTo pos (starEach (e :: es) X.env)) (backToKw pos (keywordEach [] X.env))) := by rfl)
    (he : starEach (e :: es) X.env = (false, eval e X.env) :: starEach es X.env := by rfl) (hpl : (backTo pos (starEach es X.env)).any (·.1) = false := by rfl) : PE X (.Call fe (e :: es) [] pos) (tCallOwn C sp E tf t) := by
  refine ⟨fun pins s σ H Q I h => ?_⟩
  refine Call_ (thn (hf.run pins s σ H _ I h) fun u s1 ⟨y, H1, I1, ry, a, ey, q⟩ => ?_) ht
  subst ey
  obtain rfl : u = Value.ref a := ry
  refine StX.callO_with (thn (ha.run pos pins s1 σ H1 _ I1 q) fun us s2 ⟨vs, H2, I2, r, hi, q2⟩ => ?_) he hpl
  obtain ⟨dx, fs, hi⟩ := hi
  obtain ⟨ox, od, J, hd⟩ := StX.insC_at I2 (Or.inr ⟨dx, fs, hi⟩)
  exact ⟨⟨C, ox, od, J, hd⟩, StX.run_callO ⟨d.at_, d.fn, hfi⟩ (fnR_of F hb) hr hx I2 (.inr ⟨dx, fs, hi⟩) r q2⟩
end
/-! ### rules with the written part told: within a comprehension's block -/
section
variable {X : Cx} (K : PySem.W.Frag) {tg l e a b o : Expr} {tl ta tb te to : TE} {f : Str} {pos : Pos}
theorem pi_listK (hl : PE X l tl) (hK : X.K = K := by rfl) : PI X tg l (iList K tl) := hK ▸ pi_list hl
theorem pi_tupK (hl : PE X l tl) (hK : X.K = K := by rfl) : PI X tg l (iTup K tl) := hK ▸ pi_tup hl
theorem ix_listK (hK : X.K = K := by rfl) : IxR X (rIxL K) := hK ▸ ix_list
theorem ix_tupK (hK : X.K = K := by rfl) : IxR X (rIxT K) := hK ▸ ix_tup
theorem pe_fldK (he : PE X e ta) (hb : attributeBase e f X.env (eval e X.env) = eval e X.env := by rfl) (hK : X.K = K := by rfl) : PE X (.Attribute e f pos) (tFld K ta f) := hK ▸ pe_fld he hb
theorem call_lenK (hK : X.K = K := by rfl) : CallR X (.builtin "len") (rLenS K) := hK ▸ call_len_seq
theorem call_tupK (hK : X.K = K := by rfl) : CallR X (.type "tuple") (rTupO K) := hK ▸ call_tuple_of
theorem call_listK (hK : X.K = K := by rfl) : CallR X (.type "list") (rListS K) := hK ▸ call_list_of
theorem call_isiK (hK : X.K = K := by rfl) : CallR X (.builtin "isinstance") (rIsi K) := hK ▸ call_isi
theorem op_inK (hK : X.K = K := by rfl) : OpR X (compareOp .In) (rIn K false) := hK ▸ op_in_seq
theorem op_notInK (hK : X.K = K := by rfl) : OpR X (compareOp .NotIn) (rIn K true) := hK ▸ op_notIn_seq
theorem op_eqK (hu : X.A.units + 64 < cLine) (hK : X.K = K := by rfl) : OpR X (compareOp .Eq) (rEqD K) := hK ▸ op_eqD hu
theorem op_neK (hu : X.A.units + 64 < cLine) (hK : X.K = K := by rfl) : OpR X (compareOp .NotEq) (rNeD K) := hK ▸ op_neD hu
theorem sl_listK (hK : X.K = K := by rfl) : SlR X (rSlL K) := hK ▸ sl_list
end
end Mu

namespace Mu
open PySem PySem.Spec PyProof.Rows L2 He
/-! ### the head's facts: names, further facts, defs -/
def obsM (fa : List Fa) (ex : List FactB) (fn : List DefD) (K : PySem.W.Frag) : AlD := (((fa.all fun f => f.ok K) && ex.all fun f => f K) && fn.all fun d => d.ok K, fn.map fun d => fnW K d.at_)
def SaysM (fa : List Fa) (ex : List FactB) (fn : List DefD) (K : PySem.W.Frag) : Prop := obsM fa ex fn K = valD fn
def obsMG (n : Nat) (fa : List Fa) (ex : List FactB) (fn : List DefD) (g : Addr → Option Obj) : AlD := obsM fa ex fn (frG g (asD g n))
def hookM (n : Nat) (fa : List Fa) (ex : List FactB) (fn : List DefD) : PySem.W.Hook where
  α := AlD
  obs := fun s => obsMG n fa ex fn s.heap.get?
  val := fun _ => valD fn
  says := fun _ h => ∃ K : PySem.W.Frag, K.In h ∧ SaysM fa ex fn K
  of := fun _ _ e => ⟨_, frG_in, e⟩
  keeps := fun _ _ _ ⟨K, hK, c⟩ k => ⟨K, PySem.W.Frag.In.keeps hK k, c⟩
theorem obsMG_eq {n : Nat} {fa : List Fa} {ex : List FactB} {fn : List DefD} {g : Addr → Option Obj} {s : Shared} (h : ∀ a, g a = s.heap.get? a) : obsMG n fa ex fn g = (hookM n fa ex fn).obs s := by
  have e : g = s.heap.get? := funext h
  rw [e] <;> rfl
section
variable {fa : List Fa} {ex : List FactB} {fn : List DefD} {K : PySem.W.Frag}
theorem SaysM.fact (c : SaysM fa ex fn K) (i : Nat) {f : Fa} (h : fa[i]? = some f := by rfl) : f.ok K = true := by
  have c1 := (ba (ba (show (((fa.all fun f => f.ok K) && ex.all fun f => f K) && fn.all fun d => d.ok K) = true from congrArg (fun z : AlD => z.1) c)).1).1
  exact List.all_eq_true.mp c1 f (List.mem_of_getElem? h)
theorem SaysM.exf (c : SaysM fa ex fn K) (i : Nat) {f : FactB} (h : ex[i]? = some f := by rfl) : f K = true := by
  have c1 := (ba (ba (show (((fa.all fun f => f.ok K) && ex.all fun f => f K) && fn.all fun d => d.ok K) = true from congrArg (fun z : AlD => z.1) c)).1).2
  exact List.all_eq_true.mp c1 f (List.mem_of_getElem? h)
theorem SaysM.def_ (c : SaysM fa ex fn K) (i : Nat) {d : DefD} (h : fn[i]? = some d := by rfl) : ∃ fd, FunD K d.name d.qual d.params d.body d.scope (d.dvs K) (d.kws K) (fAd K d.at_) fd := by
  have c2 := (ba (show (((fa.all fun f => f.ok K) && ex.all fun f => f K) && fn.all fun d => d.ok K) = true from congrArg (fun z : AlD => z.1) c)).2
  have e : fn.map (fun d => fnW K d.at_) = fn.map DefD.val := congrArg (fun z : AlD => z.2) c
  have e2 : (fn.map fun d => fnW K d.at_)[i]? = (fn.map DefD.val)[i]? := by rw [e]
  rw [List.getElem?_map, List.getElem?_map, h] at e2
  exact DefD.funD (Option.some.inj e2) (List.all_eq_true.mp c2 d (List.mem_of_getElem? h))
end
end Mu

namespace Mu
open PySem
/-! ### bits of naturals -/
theorem band_nat (a b : Nat) : Builtin.bitAnd (a : Int) (b : Int) = ((a &&& b : Nat) : Int) := by simp [Builtin.bitAnd]
theorem bor_nat (a b : Nat) : Builtin.bitOr (a : Int) (b : Int) = ((a ||| b : Nat) : Int) := by
  unfold Builtin.bitOr
  have h1 : ¬ (0 : Int) ≤ Builtin.bitNot (a : Int) := by unfold Builtin.bitNot; omega
  have h2 : ¬ (0 : Int) ≤ Builtin.bitNot (b : Int) := by unfold Builtin.bitNot; omega
  have n1 : Builtin.bitNot (Builtin.bitNot (a : Int)) = (a : Int) := by unfold Builtin.bitNot; omega
  have n2 : Builtin.bitNot (Builtin.bitNot (b : Int)) = (b : Int) := by unfold Builtin.bitNot; omega
  have e : Builtin.bitAnd (Builtin.bitNot (a : Int)) (Builtin.bitNot (b : Int)) = Builtin.bitNot (((a ||| b : Nat)) : Int) := by
    unfold Builtin.bitAnd
    rw [decide_eq_false h1, decide_eq_false h2]
    simp [n1, n2]
  rw [e]
  unfold Builtin.bitNot; omega
theorem band_not (a b : Nat) : Builtin.bitAnd (a : Int) (Builtin.bitNot (b : Int)) = ((a - (a &&& b) : Nat) : Int) := by
  have h2 : ¬ (0 : Int) ≤ Builtin.bitNot (b : Int) := by unfold Builtin.bitNot; omega
  have n2 : Builtin.bitNot (Builtin.bitNot (b : Int)) = (b : Int) := by unfold Builtin.bitNot; omega
  have le : a &&& b ≤ a := Nat.and_le_left
  unfold Builtin.bitAnd
  rw [decide_eq_false h2, decide_eq_true (Int.natCast_nonneg a)]
  simp only [n2, Int.toNat_natCast]
  omega
theorem shl_nat (k : Nat) : (1 : Int) * 2 ^ ((k : Int)).toNat = ((2 ^ k : Nat) : Int) := by
  rw [Int.toNat_natCast, Int.one_mul, Int.natCast_pow]; rfl
theorem shr_nat (n k : Nat) : (n : Int) / 2 ^ ((k : Int)).toNat = ((n / 2 ^ k : Nat) : Int) := by
  rw [Int.toNat_natCast, Int.natCast_ediv, Int.natCast_pow]; rfl
theorem shr1 (n : Nat) : (n : Int) / 2 ^ ((1 : Int)).toNat = ((n / 2 : Nat) : Int) := by
  have := shr_nat n 1
  simpa using this
theorem and1_test (n : Nat) : ((n &&& 1 : Nat) : Int) = 1 ↔ n.testBit 0 = true := by
  rw [Nat.and_one_is_mod, Nat.testBit_zero]
  simp
  omega
theorem shr_test (n k : Nat) : (n / 2 ^ k).testBit 0 = n.testBit k := by
  rw [← Nat.shiftRight_eq_div_pow, Nat.testBit_shiftRight]
  simp
theorem bit_test (n k : Nat) : decide (Builtin.bitAnd ((n : Int) / 2 ^ ((k : Int)).toNat) 1 = 1) = n.testBit k := by
  rw [shr_nat, show (1 : Int) = ((1 : Nat) : Int) from rfl, band_nat]
  rw [Bool.eq_iff_iff, decide_eq_true_iff]
  rw [show ((1 : Nat) : Int) = 1 from rfl, and1_test, shr_test]
/-- a < 2 ^ k by its bits -/
theorem lt_pow_of_bits {n k : Nat} (h : ∀ i, n.testBit i = true → i < k) : n < 2 ^ k := by
  refine Nat.lt_pow_two_of_testBit n fun i hi => ?_
  cases q : n.testBit i with
  | false => rfl
  | true => exact absurd (h i q) (Nat.not_lt.mpr hi)
theorem bit_lt {n k i : Nat} (h : n < 2 ^ k) (hi : n.testBit i = true) : i < k := by
  rcases Nat.lt_or_ge i k with q | q
  · exact q
  · rw [Nat.testBit_lt_two_pow (Nat.lt_of_lt_of_le h (Nat.pow_le_pow_right (by decide) q))] at hi
    cases hi
/-! ### the positions of the set bits -/
def bitsN (n : Nat) : List Nat := (List.range n).filter n.testBit
theorem bits_more {n k : Nat} (h : n < 2 ^ k) : ∀ d : Nat, (List.range (k + d)).filter n.testBit = (List.range k).filter n.testBit
  | 0 => rfl
  | d + 1 => by
    rw [← Nat.add_assoc, List.range_succ, List.filter_append, bits_more h d]
    have z : n.testBit (k + d) = false := Nat.testBit_lt_two_pow (Nat.lt_of_lt_of_le h (Nat.pow_le_pow_right (by decide) (by omega)))
    simp [z]
theorem bits_eq {n k : Nat} (h : n < 2 ^ k) : (List.range k).filter n.testBit = bitsN n := by
  rcases Nat.le_total k n with q | q
  · have e := bits_more h (n - k)
    rw [show k + (n - k) = n by omega] at e
    exact e.symm
  · have e := bits_more (Nat.lt_two_pow_self (n := n)) (k - n)
    rw [show n + (k - n) = k by omega] at e
    exact e
theorem mem_bits {n i : Nat} : i ∈ bitsN n ↔ n.testBit i = true := by
  unfold bitsN
  rw [List.mem_filter, List.mem_range]
  exact ⟨fun h => h.2, fun h => ⟨bit_lt Nat.lt_two_pow_self h, h⟩⟩
theorem bits_len {n k : Nat} (h : n < 2 ^ k) : (bitsN n).length ≤ k := by
  rw [← bits_eq h]
  have := List.length_filter_le n.testBit (List.range k)
  rw [List.length_range] at this
  exact this
/-! ### a mask of words -/
def maskN (l : List Nat) : Nat := l.foldl (fun m w => m ||| 2 ^ w) 0
theorem maskN_from (l : List Nat) : ∀ m i, (l.foldl (fun m w => m ||| 2 ^ w) m).testBit i = (m.testBit i || decide (i ∈ l)) := by
  induction l with
  | nil => intro m i; simp
  | cons w r ih =>
    intro m i
    rw [List.foldl_cons, ih, Nat.testBit_or, Nat.testBit_two_pow]
    simp only [List.mem_cons]
    by_cases h1 : w = i <;> by_cases h2 : i ∈ r <;> simp [h1, h2, eq_comm]
theorem maskN_bit (l : List Nat) (i : Nat) : (maskN l).testBit i = decide (i ∈ l) := by
  unfold maskN
  rw [maskN_from]; simp
theorem maskN_lt {l : List Nat} {k : Nat} (h : ∀ w ∈ l, w < k) : maskN l < 2 ^ k := lt_pow_of_bits fun i hi => by
  rw [maskN_bit] at hi
  exact h i (of_decide_eq_true hi)
theorem maskN_take {l : List Nat} {i : Nat} {w : Nat} (h : l[i]? = some w) : maskN (l.take (i + 1)) = maskN (l.take i) ||| 2 ^ w := by
  unfold maskN
  rw [List.take_add_one, h, List.foldl_append]
  rfl
/-! ### images and products -/
def bitOf (m : List Nat) (a b : Nat) : Bool := (m.getD a 0).testBit b
def imageTo (m : List Nat) (w : Nat) (k : Nat) : Nat := (List.range k).foldl (fun o j => if w.testBit j then o ||| m.getD j 0 else o) 0
def imageN (m : List Nat) (w : Nat) : Nat := imageTo m w m.length
theorem imageTo_succ (m : List Nat) (w k : Nat) : imageTo m w (k + 1) = if w.testBit k then imageTo m w k ||| m.getD k 0 else imageTo m w k := by
  unfold imageTo
  rw [List.range_succ, List.foldl_append]
  rfl
theorem imageTo_bit (m : List Nat) (w : Nat) : ∀ k i, (imageTo m w k).testBit i = true ↔ ∃ j, j < k ∧ w.testBit j = true ∧ bitOf m j i = true
  | 0, i => by simp [imageTo]
  | k + 1, i => by
    rw [imageTo_succ]
    have ih := imageTo_bit m w k i
    by_cases q : w.testBit k = true
    · rw [if_pos q, Nat.testBit_or, Bool.or_eq_true, ih]
      constructor
      · rintro (⟨j, h1, h2⟩ | h)
        · exact ⟨j, by omega, h2⟩
        · exact ⟨k, by omega, q, h⟩
      · rintro ⟨j, h1, h2, h3⟩
        rcases Nat.lt_or_ge j k with z | z
        · exact .inl ⟨j, z, h2, h3⟩
        · have : j = k := by omega
          subst this
          exact .inr h3
    · rw [if_neg q, ih]
      constructor
      · rintro ⟨j, h1, h2⟩
        exact ⟨j, by omega, h2⟩
      · rintro ⟨j, h1, h2, h3⟩
        rcases Nat.lt_or_ge j k with z | z
        · exact ⟨j, z, h2, h3⟩
        · have : j = k := by omega
          subst this
          exact absurd h2 q
theorem imageN_bit (m : List Nat) (w i : Nat) : (imageN m w).testBit i = true ↔ ∃ j, j < m.length ∧ w.testBit j = true ∧ bitOf m j i = true := imageTo_bit m w m.length i
/-- masks of n words -/
structure Wf (n : Nat) (m : List Nat) : Prop where
  len : m.length = n
  lt : ∀ x ∈ m, x < 2 ^ n
theorem Wf.get {n : Nat} {m : List Nat} (h : Wf n m) (a : Nat) : m.getD a 0 < 2 ^ n := by
  rw [List.getD_eq_getElem?_getD]
  cases q : m[a]? with
  | none => exact Nat.two_pow_pos n
  | some x => exact h.lt x (List.mem_of_getElem? q)
theorem Wf.bit {n : Nat} {m : List Nat} (h : Wf n m) {a b : Nat} (q : bitOf m a b = true) : a < n ∧ b < n := by
  refine ⟨?_, bit_lt (h.get a) q⟩
  rcases Nat.lt_or_ge a n with z | z
  · exact z
  · unfold bitOf at q
    rw [List.getD_eq_getElem?_getD, List.getElem?_eq_none (by rw [h.len]; exact z)] at q
    simp at q
theorem imageTo_lt {n : Nat} {m : List Nat} (h : Wf n m) (w k : Nat) : imageTo m w k < 2 ^ n := lt_pow_of_bits fun i hi => by
  obtain ⟨j, _, _, q⟩ := (imageTo_bit m w k i).mp hi
  exact (h.bit q).2
theorem imageN_lt {n : Nat} {m : List Nat} (h : Wf n m) (w : Nat) : imageN m w < 2 ^ n := imageTo_lt h w _
/-- two relations with the same pairs are one -/
theorem Wf.ext {n : Nat} {m m' : List Nat} (h : Wf n m) (h' : Wf n m') (e : ∀ a b, a < n → b < n → bitOf m a b = bitOf m' a b) : m = m' := by
  refine List.ext_getElem? fun a => ?_
  rcases Nat.lt_or_ge a n with z | z
  · have h1 : a < m.length := by rw [h.len]; exact z
    have h2 : a < m'.length := by rw [h'.len]; exact z
    rw [List.getElem?_eq_getElem h1, List.getElem?_eq_getElem h2]
    congr 1
    refine Nat.eq_of_testBit_eq fun b => ?_
    have g1 : m.getD a 0 = m[a] := by rw [List.getD_eq_getElem?_getD, List.getElem?_eq_getElem h1]; rfl
    have g2 : m'.getD a 0 = m'[a] := by rw [List.getD_eq_getElem?_getD, List.getElem?_eq_getElem h2]; rfl
    rcases Nat.lt_or_ge b n with y | y
    · have q := e a b z y
      unfold bitOf at q
      rw [g1, g2] at q
      exact q
    · rw [Nat.testBit_lt_two_pow (Nat.lt_of_lt_of_le (h.lt _ (List.getElem_mem h1)) (Nat.pow_le_pow_right (by decide) y)), Nat.testBit_lt_two_pow (Nat.lt_of_lt_of_le (h'.lt _ (List.getElem_mem h2)) (Nat.pow_le_pow_right (by decide) y))]
  · rw [List.getElem?_eq_none (by rw [h.len]; exact z), List.getElem?_eq_none (by rw [h'.len]; exact z)]
def prodN (f l : List Nat) : List Nat := f.map (imageN l)
theorem getD_map {f : Nat → Nat} {l : List Nat} {a : Nat} (h : a < l.length) : (l.map f).getD a 0 = f (l.getD a 0) := by
  rw [List.getD_eq_getElem?_getD, List.getD_eq_getElem?_getD, List.getElem?_map, List.getElem?_eq_getElem h]
  rfl
theorem getD_range_map {f : Nat → Nat} {n a : Nat} (h : a < n) : ((List.range n).map f).getD a 0 = f a := by
  rw [List.getD_eq_getElem?_getD, List.getElem?_map, List.getElem?_range h]
  rfl
theorem wf_range {n : Nat} {f : Nat → Nat} (h : ∀ a, a < n → f a < 2 ^ n) : Wf n ((List.range n).map f) := ⟨by simp, fun x hx => by
  obtain ⟨a, ha, e⟩ := List.mem_map.mp hx
  rw [← e]
  exact h a (List.mem_range.mp ha)⟩
theorem prodN_wf {n : Nat} {f l : List Nat} (hf : Wf n f) (hl : Wf n l) : Wf n (prodN f l) := ⟨by unfold prodN; rw [List.length_map]; exact hf.len, fun x hx => by
  obtain ⟨a, _, e⟩ := List.mem_map.mp hx
  rw [← e]
  exact imageN_lt hl a⟩
theorem prodN_bit {n : Nat} {f l : List Nat} (hf : Wf n f) (hl : Wf n l) {a c : Nat} (ha : a < n) : bitOf (prodN f l) a c = true ↔ ∃ b, b < n ∧ bitOf f a b = true ∧ bitOf l b c = true := by
  unfold bitOf prodN
  rw [getD_map (by rw [hf.len]; exact ha), imageN_bit, hl.len]
  rfl
end Mu
namespace Mu
/-! ### the greatest table behind -/
theorem maskN_bits (n : Nat) : maskN (bitsN n) = n := Nat.eq_of_testBit_eq fun i => by
  rw [maskN_bit, Bool.eq_iff_iff, decide_eq_true_iff, mem_bits]
def behindTo (f w : List Nat) (mid k : Nat) : Nat := (List.range k).foldl (fun m j => if bitOf f j mid then m &&& w.getD j 0 else m) (2 ^ f.length - 1)
theorem behindTo_succ (f w : List Nat) (mid k : Nat) : behindTo f w mid (k + 1) = if bitOf f k mid = true then behindTo f w mid k &&& w.getD k 0 else behindTo f w mid k := by
  unfold behindTo
  rw [List.range_succ, List.foldl_append]
  rfl
def behindAt (f w : List Nat) (mid : Nat) : Nat := behindTo f w mid f.length
def behindN (f w : List Nat) : List Nat := (List.range f.length).map (behindAt f w)
theorem behindTo_bit (f w : List Nat) (mid : Nat) : ∀ k c, (behindTo f w mid k).testBit c = true ↔ c < f.length ∧ ∀ j, j < k → bitOf f j mid = true → bitOf w j c = true
  | 0, c => by
    unfold behindTo
    simp [Nat.testBit_two_pow_sub_one]
  | k + 1, c => by
    rw [behindTo_succ]
    have ih := behindTo_bit f w mid k c
    by_cases q : bitOf f k mid = true
    · rw [if_pos q, Nat.testBit_and, Bool.and_eq_true, ih]
      constructor
      · rintro ⟨⟨h1, h2⟩, h3⟩
        refine ⟨h1, fun j hj hb => ?_⟩
        rcases Nat.lt_or_ge j k with z | z
        · exact h2 j z hb
        · have : j = k := by omega
          subst this; exact h3
      · rintro ⟨h1, h2⟩
        exact ⟨⟨h1, fun j hj => h2 j (by omega)⟩, h2 k (by omega) q⟩
    · rw [if_neg q, ih]
      constructor
      · rintro ⟨h1, h2⟩
        refine ⟨h1, fun j hj hb => ?_⟩
        rcases Nat.lt_or_ge j k with z | z
        · exact h2 j z hb
        · have : j = k := by omega
          subst this; exact absurd hb q
      · rintro ⟨h1, h2⟩
        exact ⟨h1, fun j hj => h2 j (by omega)⟩
theorem behindN_wf {n : Nat} {f w : List Nat} (hf : Wf n f) (_ : Wf n w) : Wf n (behindN f w) := by
  unfold behindN
  rw [hf.len]
  refine wf_range fun a _ => lt_pow_of_bits fun i hi => ?_
  have := ((behindTo_bit f w a f.length i).mp hi).1
  rw [hf.len] at this; exact this
theorem behindN_bit {n : Nat} {f w : List Nat} (hf : Wf n f) {mid c : Nat} (hm : mid < n) : bitOf (behindN f w) mid c = true ↔ c < n ∧ ∀ j, j < n → bitOf f j mid = true → bitOf w j c = true := by
  unfold bitOf behindN
  rw [getD_range_map (by rw [hf.len]; exact hm)]
  have := behindTo_bit f w mid f.length c
  rw [hf.len] at this
  unfold behindAt
  rw [hf.len]
  exact this
end Mu
namespace Mu
/-! ### masks put together bit by bit -/
def accTo (c : Nat → Bool) (k : Nat) : Nat := (List.range k).foldl (fun m j => if c j then m ||| 2 ^ j else m) 0
theorem accTo_succ (c : Nat → Bool) (k : Nat) : accTo c (k + 1) = if c k = true then accTo c k ||| 2 ^ k else accTo c k := by
  unfold accTo
  rw [List.range_succ, List.foldl_append]
  rfl
theorem accTo_bit (c : Nat → Bool) : ∀ k i, (accTo c k).testBit i = (decide (i < k) && c i)
  | 0, i => by simp [accTo]
  | k + 1, i => by
    rw [accTo_succ]
    have ih := accTo_bit c k i
    by_cases q : c k = true
    · rw [if_pos q, Nat.testBit_or, ih, Nat.testBit_two_pow]
      by_cases z : k = i
      · subst z; simp [q]
      · have : decide (i < k + 1) = decide (i < k) := by
          rw [Bool.eq_iff_iff, decide_eq_true_iff, decide_eq_true_iff]; omega
        rw [this, decide_eq_false z, Bool.or_false]
    · rw [if_neg q, ih]
      by_cases z : k = i
      · subst z
        have : c k = false := by cases y : c k <;> simp_all
        simp [this]
      · have : decide (i < k + 1) = decide (i < k) := by
          rw [Bool.eq_iff_iff, decide_eq_true_iff, decide_eq_true_iff]; omega
        rw [this]
theorem accTo_lt (c : Nat → Bool) (k : Nat) : accTo c k < 2 ^ k := lt_pow_of_bits fun i hi => by
  rw [accTo_bit] at hi
  have := (Bool.and_eq_true_iff.mp hi).1
  exact of_decide_eq_true this
def tabOf (n : Nat) (c : Nat → Nat → Bool) : List Nat := (List.range n).map fun a => accTo (c a) n
theorem tabOf_wf (n : Nat) (c : Nat → Nat → Bool) : Wf n (tabOf n c) := wf_range fun a _ => accTo_lt (c a) n
theorem tabOf_bit {n : Nat} {c : Nat → Nat → Bool} {a b : Nat} (ha : a < n) : bitOf (tabOf n c) a b = (decide (b < n) && c a b) := by
  unfold bitOf tabOf
  rw [getD_range_map ha]
  exact accTo_bit (c a) n b
theorem tabOf_bits {n : Nat} {c : Nat → Nat → Bool} : (tabOf n c).map bitsN = (List.range n).map fun a => (List.range n).filter (c a) := by
  unfold tabOf
  rw [List.map_map]
  refine List.map_congr_left fun a _ => ?_
  show bitsN (accTo (c a) n) = _
  rw [← bits_eq (accTo_lt (c a) n)]
  refine List.filter_congr fun i hi => ?_
  rw [accTo_bit, decide_eq_true (List.mem_range.mp hi), Bool.true_and]
/-- the turned table -/
def convN (m : List Nat) : List Nat := tabOf m.length fun out told => bitOf m told out
theorem convN_wf {n : Nat} {m : List Nat} (h : Wf n m) : Wf n (convN m) := by unfold convN; rw [h.len]; exact tabOf_wf _ _
theorem convN_bit {n : Nat} {m : List Nat} (h : Wf n m) {a b : Nat} (ha : a < n) : bitOf (convN m) a b = bitOf m b a := by
  unfold convN
  rw [h.len, tabOf_bit ha]
  by_cases q : b < n
  · rw [decide_eq_true q, Bool.true_and]
  · rw [decide_eq_false q, Bool.false_and]
    cases z : bitOf m b a with
    | false => rfl
    | true => exact absurd (h.bit z).1 q
/-- the greatest table ahead -/
def subN (x y : Nat) : Bool := decide (x - (x &&& y) = 0)
theorem subN_iff (x y : Nat) : subN x y = true ↔ ∀ i, x.testBit i = true → y.testBit i = true := by
  unfold subN
  rw [decide_eq_true_iff]
  have le : x &&& y ≤ x := Nat.and_le_left
  constructor
  · intro h i hi
    have e : x &&& y = x := by omega
    have := congrArg (fun z => z.testBit i) e
    simp only [Nat.testBit_and] at this
    rw [hi, Bool.true_and] at this
    exact this
  · intro h
    have e : x &&& y = x := Nat.eq_of_testBit_eq fun i => by
      rw [Nat.testBit_and]
      cases q : x.testBit i with
      | false => rfl
      | true => rw [h i q]; rfl
    omega
def aheadN (w l : List Nat) : List Nat := tabOf w.length fun told mid => subN (l.getD mid 0) (w.getD told 0)
theorem aheadN_wf {n : Nat} {w l : List Nat} (hw : Wf n w) (_ : Wf n l) : Wf n (aheadN w l) := by unfold aheadN; rw [hw.len]; exact tabOf_wf _ _
theorem aheadN_bit {n : Nat} {w l : List Nat} (hw : Wf n w) {a b : Nat} (ha : a < n) : bitOf (aheadN w l) a b = true ↔ b < n ∧ ∀ c, bitOf l b c = true → bitOf w a c = true := by
  unfold aheadN
  rw [hw.len, tabOf_bit ha, Bool.and_eq_true, decide_eq_true_iff, subN_iff]
  rfl
/-- turned around: ahead by behind -/
theorem ahead_turned {n : Nat} {w l : List Nat} (hw : Wf n w) (hl : Wf n l) : convN (behindN (convN l) (convN w)) = aheadN w l := by
  have wb := behindN_wf (convN_wf hl) (convN_wf hw)
  refine (convN_wf wb).ext (aheadN_wf hw hl) fun a b ha hb => ?_
  rw [convN_bit wb ha, Bool.eq_iff_iff, aheadN_bit hw ha, behindN_bit (convN_wf hl) hb]
  constructor
  · rintro ⟨_, h⟩
    refine ⟨hb, fun c hc => ?_⟩
    have hcn := (hl.bit hc).2
    have := h c hcn (by rw [convN_bit hl hcn]; exact hc)
    rw [convN_bit hw hcn] at this
    exact this
  · rintro ⟨_, h⟩
    refine ⟨ha, fun c hc hb2 => ?_⟩
    rw [convN_bit hl hc] at hb2
    rw [convN_bit hw hc]
    exact h c hb2
end Mu

namespace Mu
open PySem L2 Evl
/-! ### promises -/
def spN (R : List V → Hp → List Rp → Prop) : Sp := fun vs H Q _ => ∃ G rs, Ex G H ∧ R vs G rs ∧ ∀ p ws G2 H2, Gr G H G2 H2 → H p = none → G2 p = none → H2 p = some (.lst ws) → RA G2 ws rs → Q (.ref p) H2
def spD (R : List V → Hp → Rp → Prop) : Sp := fun vs H Q _ => ∃ G r, Ex G H ∧ R vs G r ∧ ∀ v G2 H2, Gr G H G2 H2 → r.p v G2 → Q v H2
theorem SpN.of {R : List V → Hp → List Rp → Prop} {vs : List V} {G : Hp} {rs : List Rp} (h : R vs G rs) : SpN (spN R) vs G rs := fun H e Q q _ => ⟨G, rs, e, h, q⟩
theorem SpD.of {R : List V → Hp → Rp → Prop} {vs : List V} {G : Hp} {r : Rp} (h : R vs G r) : SpD (spD R) vs G r := fun H e Q q _ => ⟨G, r, e, h, q⟩
section
variable {σ : L2.St} {G H : Hp} {te ta tb : TE} {t u : TT} {K : PySem.W.Frag} {D : Ends} {tu tw : TS} {v x y z : V} {r : Rp} {i : Nat}
theorem sq {t1 t2 : TS} (h : t1 { D with nx := t2 D } σ H) : tSeq t1 t2 D σ H := h
theorem nxt (h : D.nx σ H) : tNext D σ H := h
/-! tests over ints -/
theorem et_cmp {p : Int → Int → Bool} {a b : Int} (ha : Ev ta σ G (.int a)) (hb : Ev tb σ G (.int b)) : EvT (tTest (tOp (rI0 fun i j => .bl (p i j)) ta tb)) σ G (p a b) := et_test (ev_op ha hb rv_I0)
theorem et_eq (ha : Ev ta σ G x) (hb : Ev tb σ G y) (hs : scal x y = true) : EvT (tTest (tOp rEq ta tb)) σ G (decide (x = y)) := et_test (ev_op ha hb (rv_eq hs))
theorem et_ne (ha : Ev ta σ G x) (hb : Ev tb σ G y) (hs : scal x y = true) : EvT (tTest (tOp rNe ta tb)) σ G (!decide (x = y)) := et_test (ev_op ha hb (rv_ne hs))
/-- a call's answer in a plain value -/
theorem ev_callD {sp : Sp} {E : XK} {ta : TA} {rs : List Rp} (h : EvAD ta σ G rs) (hs : ∀ vs G2, Ex G G2 → RA G2 vs rs → SpD sp vs G2 (rV v)) : Ev (tCall sp [] E ta) σ G v := EvD.ev (ed_call h hs)
theorem ra1 {G : Hp} {vs : List V} {r : Rp} (h : RA G vs [r]) : ∃ v, vs = [v] ∧ r.p v G := by
  cases h with
  | cons h t => cases t; exact ⟨_, rfl, h⟩
theorem ra2 {G : Hp} {vs : List V} {r r' : Rp} (h : RA G vs [r, r']) : ∃ v w, vs = [v, w] ∧ r.p v G ∧ r'.p w G := by
  cases h with
  | cons h t =>
    obtain ⟨w, e, hw⟩ := ra1 t
    exact ⟨_, w, by rw [e], h, hw⟩
theorem ra3 {G : Hp} {vs : List V} {r r' r'' : Rp} (h : RA G vs [r, r', r'']) : ∃ v w x, vs = [v, w, x] ∧ r.p v G ∧ r'.p w G ∧ r''.p x G := by
  cases h with
  | cons h t =>
    obtain ⟨w, x, e, hw⟩ := ra2 t
    exact ⟨_, w, x, by rw [e], h, hw⟩
end
/-! ### loops: Pv over the footprint behind the source, the items taken so far (their number), the slots, the heap -/
section
variable {σ : L2.St} {G H : Hp} {tl : TE} {K : PySem.W.Frag} {D : Ends} {tu : TS} {j : Nat} {α : Type} {ta : TA}
theorem s_forL (l : List α) (ρ : α → Rp) (e : Ex G H) (h : EvD tl σ G (rL K (l.map ρ))) (Pv : Hp → Nat → L2.St → Hp → Prop) (h0 : ∀ G1 H1, Gr G H G1 H1 → Pv G1 0 σ H1) (hk : ∀ G1 i σ' H', Pv G1 i σ' H' → Ex G1 H')
    (hs : ∀ G1 i a x σ' H', Ex G G1 → l[i]? = some a → (ρ a).p x G1 → Pv G1 i σ' H' → tu { D with nx := Pv G1 (i + 1), ct := Pv G1 (i + 1), bk := D.nx } (σ'.set j (some x)) H') (hd : ∀ G1 σ' H', Ex G G1 → Pv G1 l.length σ' H' → D.nx σ' H') :
    tFor (iList K tl) (gName j) tu D σ H := h H e _ fun v G1 H1 g1 ⟨a, vs, hv, h1, h2⟩ => by
  subst hv
  have el : vs.length = l.length := by rw [h2.len, List.length_map]
  refine ⟨a, rfl, ⟨vs, sq_of (g1.i _ _ h1)⟩, for_list (xs := vs) (Pv G1) (h0 G1 H1 g1) (fun i σ' H' _ p => sq_of ((hk G1 i σ' H' p) _ _ h1)) (fun i x σ' H' hi p => ?_) (fun σ' H' p => hd G1 σ' H' g1.g (el ▸ p))⟩
  obtain ⟨r, hr, hx⟩ := h2.getV hi
  rw [List.getElem?_map] at hr
  cases q2 : l[i]? with
  | none => rw [q2] at hr; cases hr
  | some b =>
    rw [q2] at hr
    have hr' : ρ b = r := Option.some.inj hr
    subst hr'
    exact hs G1 i b x σ' H' g1.g q2 hx p
theorem s_forT (l : List α) (ρ : α → Rp) (e : Ex G H) (h : EvD tl σ G (rT K (l.map ρ))) (Pv : Hp → Nat → L2.St → Hp → Prop) (h0 : ∀ G1 H1, Gr G H G1 H1 → Pv G1 0 σ H1) (hk : ∀ G1 i σ' H', Pv G1 i σ' H' → Ex G1 H')
    (hs : ∀ G1 i a x σ' H', Ex G G1 → l[i]? = some a → (ρ a).p x G1 → Pv G1 i σ' H' → tu { D with nx := Pv G1 (i + 1), ct := Pv G1 (i + 1), bk := D.nx } (σ'.set j (some x)) H') (hd : ∀ G1 σ' H', Ex G G1 → Pv G1 l.length σ' H' → D.nx σ' H') :
    tFor (iTup K tl) (gName j) tu D σ H := h H e _ fun v G1 H1 g1 ⟨a, vs, hv, h1, h2⟩ => by
  subst hv
  have el : vs.length = l.length := by rw [h2.len, List.length_map]
  refine ⟨a, rfl, ⟨vs, ex_t g1.i h1⟩, for_tup (xs := vs) (Pv G1) (h0 G1 H1 g1) (fun i σ' H' _ p => ex_t (hk G1 i σ' H' p) h1) (fun i x σ' H' hi p => ?_) (fun σ' H' p => hd G1 σ' H' g1.g (el ▸ p))⟩
  obtain ⟨r, hr, hx⟩ := h2.getV hi
  rw [List.getElem?_map] at hr
  cases q2 : l[i]? with
  | none => rw [q2] at hr; cases hr
  | some b =>
    rw [q2] at hr
    have hr' : ρ b = r := Option.some.inj hr
    subst hr'
    exact hs G1 i b x σ' H' g1.g q2 hx p
theorem s_forR (n : Nat) (e : Ex G H) (h : EvA ta σ G [.int (n : Int)]) (hn : n ≤ 100000) (Pv : Nat → L2.St → Hp → Prop) (h0 : ∀ H1, Ex H H1 → Pv 0 σ H1)
    (hs : ∀ (i : Nat) σ' H', i < n → Pv i σ' H' → tu { D with nx := Pv (i + 1), ct := Pv (i + 1), bk := D.nx } (σ'.set j (some (.int (i : Int)))) H') (hd : ∀ σ' H', Pv n σ' H' → D.nx σ' H') : tFor (iRng1 ta) (gName j) tu D σ H :=
  h H e _ fun H1 e1 => ⟨(n : Int), rfl, by omega, by omega, by
    rw [Int.toNat_natCast]
    refine for_range (lo := 0) (n := n) Pv (h0 H1 e1) (fun i σ' H' hi p => ?_) hd
    rw [Int.zero_add]
    exact hs i σ' H' hi p⟩
/-- for at, x in enumerate(xs): slots j, j' -/
theorem s_forE {ta : TA} {j' : Nat} (l : List α) (ρ : α → Rp) (e : Ex G H) (h : EvAD ta σ G [rL K (l.map ρ)]) (Pv : Hp → Nat → L2.St → Hp → Prop) (h0 : ∀ G1 H1, Gr G H G1 H1 → Pv G1 0 σ H1) (hk : ∀ G1 i σ' H', Pv G1 i σ' H' → Ex G1 H')
    (hm : ∀ G1 i σ' H' H'', Pv G1 i σ' H' → Ex H' H'' → Pv G1 i σ' H'')
    (hs : ∀ G1 i a x σ' H', Ex G G1 → l[i]? = some a → (ρ a).p x G1 → Pv G1 i σ' H' → tu { D with nx := Pv G1 (i + 1), ct := Pv G1 (i + 1), bk := D.nx } ((σ'.set j (some (.int (i : Int)))).set j' (some x)) H') (hd : ∀ G1 σ' H', Ex G G1 → Pv G1 l.length σ' H' → D.nx σ' H') :
    tFor (iEnum K ta) (gTup K 2 (gCons (gName j) (gCons (gName j') gNil))) tu D σ H := h H e _ fun ws G1 H1 g1 hw => by
  obtain ⟨v, rfl, a, vs, rfl, h1, h2⟩ := ra1 hw
  have el : vs.length = l.length := by rw [h2.len, List.length_map]
  refine ⟨a, vs, rfl, sq_of (g1.i _ _ h1), fun i m σ' H' => m = vs.length - i ∧ i ≤ vs.length ∧ Pv G1 i σ' H', ⟨vs.length, by simp, Nat.zero_le _, h0 G1 H1 g1⟩, ?_⟩
  rintro i m σ' H' ⟨rfl, hi, p⟩
  have q : SqL K H' a vs := sq_of ((hk G1 i σ' H' p) _ _ h1)
  by_cases hlt : i < vs.length
  · refine .inr ⟨⟨vs, vs[i], q, by simp [hlt]⟩, Pv G1 (i + 1), fun σ2 H2 p' => ⟨vs.length - (i + 1), by omega, rfl, hlt, p'⟩, fun x H2 y => ?_⟩
    obtain ⟨T, x', rfl, hT, rfl, y⟩ := y
    have hx := y vs q
    refine ⟨T, _, rfl, st_of upd_same, rfl, _, _, rfl, _, _, rfl, rfl, ?_⟩
    obtain ⟨r, hr, hx'⟩ := h2.getV hx
    rw [List.getElem?_map] at hr
    cases q2 : l[i]? with
    | none => rw [q2] at hr; cases hr
    | some b =>
      rw [q2] at hr
      have hr' : ρ b = r := Option.some.inj hr
      subst hr'
      exact hs G1 i b x' σ' _ g1.g q2 hx' (hm G1 i σ' H' _ p (Ex.new hT))
  · have e : i = vs.length := by omega
    subst e
    exact .inl ⟨⟨vs, q, Nat.le_refl _⟩, hd G1 σ' H' g1.g (el ▸ p)⟩
end
end Mu

namespace Mu
open PySem L2 Evl
section
variable {σ : L2.St} {G H : Hp} {te tl ta : TE} {t : TT} {K : PySem.W.Frag} {α : Type} {j : Nat} {vs : List Nat}
theorem yes_ite {σ : L2.St} {H : Hp} {A B : Hp → Prop} (h : A H) : tYes σ H (fun b H3 => if b = true then A H3 else B H3) := by
  show (if true = true then A H else B H)
  rw [if_pos rfl]
  exact h
theorem filter_yes {l : List α} {rr : α → Rp} : (l.filter fun _ => true).map rr = l.map rr := by
  congr 1
  exact List.filter_eq_self.mpr fun _ _ => rfl
theorem en_lcL0 (l : List α) (ρ : α → Rp) (rr : α → Rp) (h : EvD tl σ G (rL K (l.map ρ))) (hz : l.length ≤ 40000) (hw : ∀ x, wipe ((wipe σ vs).set j (some x)) vs = wipe σ vs)
    (he : ∀ a x G1, a ∈ l → Ex G G1 → (ρ a).p x G1 → EvD te ((wipe σ vs).set j (some x)) G1 (rr a)) : EvN (tLc (iList K tl) (gName j) tYes te vs) σ G (l.map rr) :=
  en_is (en_lcL l ρ (fun _ => true) rr h hz hw (fun _ _ _ _ _ _ => yes_T rfl) fun a x G1 hm _ e hx => he a x G1 hm e hx) filter_yes
theorem en_lcT0 (l : List α) (ρ : α → Rp) (rr : α → Rp) (h : EvD tl σ G (rT K (l.map ρ))) (hz : l.length ≤ 40000) (hw : ∀ x, wipe ((wipe σ vs).set j (some x)) vs = wipe σ vs)
    (he : ∀ a x G1, a ∈ l → Ex G G1 → (ρ a).p x G1 → EvD te ((wipe σ vs).set j (some x)) G1 (rr a)) : EvN (tLc (iTup K tl) (gName j) tYes te vs) σ G (l.map rr) :=
  en_is (en_lcT l ρ (fun _ => true) rr h hz hw (fun _ _ _ _ _ _ => yes_T rfl) fun a x G1 hm _ e hx => he a x G1 hm e hx) filter_yes
theorem en_lcR0 {ta : TA} (n : Nat) (rr : Nat → Rp) (h : EvA ta σ G [.int (n : Int)]) (hz : n ≤ 40000) (hw : ∀ x, wipe ((wipe σ vs).set j (some x)) vs = wipe σ vs)
    (he : ∀ (a : Nat) G1, a < n → Ex G G1 → EvD te ((wipe σ vs).set j (some (.int (a : Int)))) G1 (rr a)) : EvN (tLc (iRng1 ta) (gName j) tYes te vs) σ G ((List.range n).map rr) :=
  en_is (en_lcR n (fun _ => true) rr h hz hw (fun _ _ _ _ => yes_T rfl) fun a G1 hm _ e => he a G1 hm e) filter_yes
/-- [e for a in range(n) for b in xs(a)] -/
theorem en_lc2R {ta : TA} {te1 tl1 : TE} {j1 : Nat} {vs vs1 : List Nat} (n : Nat) (l : Nat → List α) (ρ : α → Rp) (rr : Nat → α → Rp) (h : EvA ta σ G [.int (n : Int)]) (hz : n ≤ 100) (hz1 : ∀ a, a < n → (l a).length ≤ 100)
    (hw : ∀ x, wipe ((wipe σ vs).set j (some x)) vs = wipe σ vs) (hw1 : ∀ x y, wipe ((wipe ((wipe σ vs).set j (some x)) vs1).set j1 (some y)) vs1 = wipe ((wipe σ vs).set j (some x)) vs1)
    (hl : ∀ (a : Nat) G1, a < n → Ex G G1 → EvD tl1 ((wipe σ vs).set j (some (.int (a : Int)))) G1 (rL K ((l a).map ρ)))
    (he : ∀ (a : Nat) (b : α) x G1, a < n → b ∈ l a → Ex G G1 → (ρ b).p x G1 → EvD te1 ((wipe ((wipe σ vs).set j (some (.int (a : Int)))) vs1).set j1 (some x)) G1 (rr a b)) :
    EvN (tLc2 (iRng1 ta) (gName j) tYes (iList K tl1) (gName j1) tYes te1 vs vs1) σ G ((List.range n).flatMap fun a => (l a).map (rr a)) := fun H0 e Q q => h H0 e _ fun H1 e1 => by
  refine ⟨(n : Int), rfl, by omega, by omega, fun Dl hD => ?_⟩
  have g1 := (Gr.refl e).more e1
  rw [Int.toNat_natCast]
  have hsz : ∀ i, ((List.range i).flatMap fun a => (l a).map (rr a)).length ≤ i * 100 ∨ n < i := fun i => by
    induction i with
    | zero => exact .inl (by simp)
    | succ i ih =>
      rcases ih with ih | ih
      · rcases Nat.lt_or_ge i n with z | z
        · refine .inl ?_
          rw [List.range_succ, List.flatMap_append, List.length_append]
          have := hz1 i z
          rw [List.flatMap_cons, List.flatMap_nil, List.append_nil, List.length_map]
          omega
        · exact .inr (by omega)
      · exact .inr (by omega)
  refine ⟨fun i m H' => m = n - i ∧ i ≤ n ∧ Cm G H1 Dl ((List.range i).flatMap fun a => (l a).map (rr a)) H', ⟨n, by simp, Nat.zero_le _, cm_start g1.i hD⟩, ?_⟩
  rintro i m H' ⟨rfl, hi, p⟩
  by_cases hlt : i < n
  · refine .inr ⟨hlt, fun H' => Cm G H1 Dl ((List.range (i + 1)).flatMap fun a => (l a).map (rr a)) H', fun H2 p' => ⟨n - (i + 1), by omega, rfl, hlt, p'⟩, fun x H2 y => ?_⟩
    obtain ⟨ex, ey⟩ := y
    subst ex ey
    rw [show (0 : Int) + (i : Int) = (i : Int) from Int.zero_add _]
    refine ⟨hw _, ?_⟩
    refine yes_ite ?_
    obtain ⟨p1, G', ws, g, hG, hD', ra⟩ := p
    refine hl i G' hlt g.g _ g.i _ fun v G3 H3 g3 ⟨a, xs, hv, h1, h2⟩ => ?_
    subst hv
    have el : xs.length = (l i).length := by rw [h2.len, List.length_map]
    refine ⟨a, rfl, ⟨xs, sq_of (g3.i _ _ h1)⟩, fun k m' H' => m' = xs.length - k ∧ k ≤ xs.length ∧ Ex G3 H' ∧ Cm G H1 Dl (((List.range i).flatMap fun a => (l a).map (rr a)) ++ ((l i).take k).map (rr i)) H' ∧ ∃ G4 ws, Gr G H1 G4 H' ∧ Ex G3 G4 ∧ G4 Dl = none ∧ H' Dl = some (.lst ws) ∧ RA G4 ws (((List.range i).flatMap fun a => (l a).map (rr a)) ++ ((l i).take k).map (rr i)), ⟨xs.length, by simp, Nat.zero_le _, g3.i, ?_, ?_⟩, ?_⟩
    · rw [List.take_zero, List.map_nil, List.append_nil]
      exact ⟨p1, G3, ws, g.trans g3, g3.n _ _ hD' hG, g3.h _ _ hD', ra.mono g3.g⟩
    · rw [List.take_zero, List.map_nil, List.append_nil]
      exact ⟨G3, ws, g.trans g3, Ex.refl _, g3.n _ _ hD' hG, g3.h _ _ hD', ra.mono g3.g⟩
    · rintro k m' H5 ⟨rfl, hk, e5, _, G4, ws4, g4, e34, hG4, hD4, ra4⟩
      by_cases hlk : k < xs.length
      · refine .inr ⟨⟨xs, xs[k], sq_of (e5 _ _ h1), by simp [hlk]⟩, fun H' => Ex G3 H' ∧ Cm G H1 Dl (((List.range i).flatMap fun a => (l a).map (rr a)) ++ ((l i).take (k + 1)).map (rr i)) H' ∧ ∃ G4 ws, Gr G H1 G4 H' ∧ Ex G3 G4 ∧ G4 Dl = none ∧ H' Dl = some (.lst ws) ∧ RA G4 ws (((List.range i).flatMap fun a => (l a).map (rr a)) ++ ((l i).take (k + 1)).map (rr i)),
          fun H6 p' => ⟨xs.length - (k + 1), by omega, rfl, hlk, p'⟩, fun x H6 y => ?_⟩
        obtain ⟨ey, y⟩ := y
        subst ey
        have hx := y xs (sq_of (e5 _ _ h1))
        obtain ⟨r, hr, hx'⟩ := h2.getV hx
        rw [List.getElem?_map] at hr
        cases q2 : (l i)[k]? with
        | none => rw [q2] at hr; cases hr
        | some b =>
          rw [q2] at hr
          have hr' : ρ b = r := Option.some.inj hr
          subst hr'
          refine ⟨hw1 _ _, ?_⟩
          refine yes_ite ?_
          refine (he i b x G4 hlt (List.mem_of_getElem? q2) g4.g ((ρ b).mono e34 hx')) _ g4.i _ fun y G6 H6 g6 hy => ?_
          have hlen : (((List.range i).flatMap fun a => (l a).map (rr a)) ++ ((l i).take k).map (rr i)).length < 50000 := by
            have z1 := hsz i
            have z2 := hz1 i hlt
            rw [List.length_append, List.length_map, List.length_take]
            omega
          have gg := g4.trans g6
          have n6 : G6 Dl = none := g6.n _ _ hD4 hG4
          have ee : (((List.range i).flatMap fun a => (l a).map (rr a)) ++ ((l i).take k).map (rr i)) ++ [rr i b] = ((List.range i).flatMap fun a => (l a).map (rr a)) ++ ((l i).take (k + 1)).map (rr i) := by
            rw [List.take_add_one, q2, List.append_assoc, List.map_append]
            rfl
          have g7 : Gr G H1 G6 (upd H6 Dl (.lst (ws4 ++ [y]))) := ⟨gg.g, Ex.mut gg.h p1, Ex.mut gg.i n6, gg.n⟩
          have r7 : RA G6 (ws4 ++ [y]) (((List.range i).flatMap fun a => (l a).map (rr a)) ++ ((l i).take (k + 1)).map (rr i)) := ee ▸ (ra4.mono g6.g).snoc hy
          exact ⟨ws4, g6.h _ _ hD4, sz_lt (by rw [ra4.len]; omega), (e34.trans g6.g).trans g7.i, ⟨p1, G6, _, g7, n6, upd_same, r7⟩, G6, _, g7, e34.trans g6.g, n6, upd_same, r7⟩
      · have ek : k = xs.length := by omega
        subst ek
        refine .inl ⟨⟨xs, sq_of (e5 _ _ h1), Nat.le_refl _⟩, p1, G4, ws4, g4, hG4, hD4, ?_⟩
        rw [List.range_succ, List.flatMap_append]
        rw [el, List.take_length] at ra4
        simpa using ra4
  · have ei : i = n := by omega
    subst ei
    obtain ⟨p1, G', ws, g, hG, hD', ra⟩ := p
    exact .inl ⟨Nat.le_refl _, q Dl ws G' H' (g1.trans g) (fresh_back e1 p1) hG hD' ra⟩
end
/-! ### tables -/
def pairsN (m : List Nat) : List (Nat × Nat) := (List.range m.length).flatMap fun a => (bitsN (m.getD a 0)).map fun b => (a, b)
section
variable (K : PySem.W.Frag) (C : Addr)
def rP (p : Nat × Nat) : Rp := rT K [nI p.1, nI p.2]
def tabF (n : Nat) (t c : Addr) : List (Str × V) := [("size", .int (n : Int)), ("masks", .ref t), ("cells", .ref c)]
def rTab (m : List Nat) : Rp := ⟨fun v H => ∃ a dx t c, v = .ref a ∧ H a = some (.ins C dx (tabF m.length t c)) ∧ (rTn K m).p (.ref t) H ∧ (rT K ((pairsN m).map (rP K))).p (.ref c) H,
  fun e ⟨a, dx, t, c, h1, h2, h3, h4⟩ => ⟨a, dx, t, c, h1, e _ _ h2, (rTn K _).mono e h3, (rT K _).mono e h4⟩⟩
/-- Table.__init__: the rows are written into the new instance -/
def spTab : Sp := fun vs H Q _ => ∃ p dx x G rows, vs = [.ref p, x] ∧ H p = some (.ins C dx []) ∧ Ex G H ∧ G p = none ∧ (rLL K rows).p x G ∧ 1 ≤ rows.length ∧ rows.length ≤ 6 ∧ (∀ r ∈ rows, r.length ≤ 100 ∧ ∀ w ∈ r, w < rows.length) ∧
  ∀ H2 G2 t c, Ex G G2 → (∀ a o, H a = some o → a ≠ p → H2 a = some o) → Ex G2 H2 → (∀ a o, H a = some o → G a = none → G2 a = none) → H2 p = some (.ins C dx (tabF rows.length t c)) → (rTn K (rows.map maskN)).p (.ref t) G2 → (rT K ((pairsN (rows.map maskN)).map (rP K))).p (.ref c) G2 → Q .non H2
end
section
variable {K : PySem.W.Frag} {C : Addr} {σ : L2.St} {G H : Hp} {ta te : TE} {m : List Nat}
theorem ed_tab {rows : List (List Nat)} {E : XK} (h : EvD ta σ G (rLL K rows)) (h1 : 1 ≤ rows.length) (h6 : rows.length ≤ 6) (hr : ∀ r ∈ rows, r.length ≤ 100 ∧ ∀ w ∈ r, w < rows.length) :
    EvD (tMake C (spTab K C) [] E (tCons ta tNil)) σ G (rTab K C (rows.map maskN)) := fun H e Q q => h H e _ fun v G2 H2 g hv => fun x dx hx hdx hne => by
  have ed : Ex H2 (upd (upd H2 dx (.own x)) x (.ins C dx [])) := (Ex.new hdx).trans (Ex.new (by rw [upd_ne (Ne.symm hne)]; exact hx))
  refine ⟨x, dx, v, G2, rows, rfl, upd_same, g.i.trans ed, fresh_back g.i hx, hv, h1, h6, hr, fun H3 G3 t c e3 k3 i3 n3 p3 t3 c3 => ⟨rfl, ?_⟩⟩
  have hx2 : (upd (upd H2 dx (.own x)) x (.ins C dx [])) x = some (.ins C dx []) := upd_same
  have gx : G3 x = none := n3 x _ hx2 (fresh_back g.i hx)
  have len : (rows.map maskN).length = rows.length := List.length_map _
  refine q (.ref x) (upd G3 x (.ins C dx (tabF rows.length t c))) H3 ⟨(g.g.trans e3).trans (Ex.new gx), fun a o z => ?_, fun a o z => ?_, fun a o z y => ?_⟩ ⟨x, dx, t, c, rfl, by rw [len]; exact upd_same, (rTn K _).mono (Ex.new gx) t3, (rT K _).mono (Ex.new gx) c3⟩
  · have z2 := g.h a o z
    exact k3 a o (ed a o z2) (ne_of_none z2 hx)
  · by_cases c1 : a = x
    · subst c1
      rw [upd_same] at z
      rw [p3]; exact z
    · rw [upd_ne c1] at z
      exact i3 a o z
  · have z2 := g.h a o z
    rw [upd_ne (ne_of_none z2 hx)]
    exact n3 a o (ed a o z2) (g.n a o z y)
theorem tabF_masks {n : Nat} {t c : Addr} : (tabF n t c).lookup ("masks" : Str) = some (.ref t) := by
  have h1 : (("masks" : Str) == ("size" : Str)) = false := by decide +kernel
  unfold tabF
  simp [List.lookup, h1]
theorem tabF_cells {n : Nat} {t c : Addr} : (tabF n t c).lookup ("cells" : Str) = some (.ref c) := by
  have h1 : (("cells" : Str) == ("size" : Str)) = false := by decide +kernel
  have h2 : (("cells" : Str) == ("masks" : Str)) = false := by decide +kernel
  unfold tabF
  simp [List.lookup, h1, h2]
theorem tab_size {x : V} (h : (rTab K C m).p x G) : ∃ a dx fs, x = .ref a ∧ G a = some (.ins C dx fs) ∧ fs.lookup ("size" : Str) = some (V.int (m.length : Int)) := by
  obtain ⟨a, dx, t, c, h1, h2, _⟩ := h
  exact ⟨a, dx, _, h1, h2, rfl⟩
theorem ev_size (h : EvD ta σ G (rTab K C m)) (hc : Cls K C) (hn : NoAttr K C "size") : Ev (tFld K ta "size") σ G (.int (m.length : Int)) := fun H e Q q => h H e _ fun v G2 H2 g hv => by
  obtain ⟨a, dx, t, c, rfl, h2, h3, h4⟩ := hv
  exact ⟨a, C, dx, _, _, rfl, g.i _ _ h2, hc, hn, rfl, q H2 g.h⟩
theorem ed_masks (h : EvD ta σ G (rTab K C m)) (hc : Cls K C) (hn : NoAttr K C "masks") : EvD (tFld K ta "masks") σ G (rTn K m) := fun H e Q q => h H e _ fun v G2 H2 g hv => by
  obtain ⟨a, dx, t, c, rfl, h2, h3, h4⟩ := hv
  exact ⟨a, C, dx, _, .ref t, rfl, g.i _ _ h2, hc, hn, tabF_masks, q _ G2 H2 g h3⟩
theorem ed_cells (h : EvD ta σ G (rTab K C m)) (hc : Cls K C) (hn : NoAttr K C "cells") : EvD (tFld K ta "cells") σ G (rT K ((pairsN m).map (rP K))) := fun H e Q q => h H e _ fun v G2 H2 g hv => by
  obtain ⟨a, dx, t, c, rfl, h2, h3, h4⟩ := hv
  exact ⟨a, C, dx, _, .ref c, rfl, g.i _ _ h2, hc, hn, tabF_cells, q _ G2 H2 g h4⟩
theorem tabF_no {n : Nat} {t c : Addr} {f : Str} (h : (f == "size" || (f == "masks" || f == "cells")) = false) : (tabF n t c).lookup f = none := by
  unfold tabF
  simp only [Bool.or_eq_false_iff] at h
  simp [List.lookup, h.1, h.2.1, h.2.2]
end
section
variable {K : PySem.W.Frag} {C : Addr} {σ : L2.St} {G H : Hp} {ta tv : TE} {f : Str} {D : Ends} {r : Rp}
/-- self.f = e, self a new instance -/
theorem s_fld {p dx : Addr} {fs : List (Str × V)} (e : Ex G H) (hp : H p = some (.ins C dx fs)) (gp : G p = none) (hv : EvD tv σ G r) (ha : Ev ta σ G (.ref p)) (hc : Cls K C) (hn : NoAttr K C f) (hl : fs.length < 1000)
    (k : ∀ y G2 H2, Ex G G2 → (∀ a o, H a = some o → a ≠ p → H2 a = some o) → Ex G2 H2 → (∀ a o, H a = some o → G a = none → G2 a = none) → G2 p = none → r.p y G2 → H2 p = some (.ins C dx (putF f y fs)) → D.nx σ H2) : sFld K ta tv f D σ H :=
  hv H e _ fun y G2 H2 g hy => ha H2 (g.g.trans g.i) _ fun H3 e3 => by
    have g2 : G2 p = none := g.n p _ hp gp
    refine ⟨p, C, dx, fs, rfl, e3 _ _ (g.h _ _ hp), hc, hn, hl, k y G2 _ g.g (fun a o z n => ?_) (Ex.mut (g.i.trans e3) g2) g.n g2 hy upd_same⟩
    rw [upd_ne n]
    exact e3 a o (g.h a o z)
def off (p : Addr) (G : Hp) : Hp := fun a => if a = p then none else G a
theorem off_self {p : Addr} {G : Hp} : off p G p = none := by unfold off; rw [if_pos rfl]
theorem off_ne {p a : Addr} {G : Hp} (h : a ≠ p) : off p G a = G a := by unfold off; rw [if_neg h]
theorem ex_off {p : Addr} {G : Hp} : Ex (off p G) G := fun a o h => by
  by_cases c : a = p
  · subst c; rw [off_self] at h; cases h
  · rw [off_ne c] at h; exact h
theorem ex_in_off {p : Addr} {G G' : Hp} (e : Ex G G') (h : G p = none) : Ex G (off p G') := fun a o z => by
  rw [off_ne (ne_of_none z h)]; exact e a o z
theorem ex_off2 {p : Addr} {G G' : Hp} (e : Ex G G') : Ex (off p G) (off p G') := fun a o h => by
  by_cases c : a = p
  · subst c; rw [off_self] at h; cases h
  · rw [off_ne c] at h ⊢; exact e a o h
theorem ex_add {p : Addr} {G H : Hp} {o : HO} (e : Ex G H) (h : H p = some o) : Ex (upd G p o) H := fun a u z => by
  by_cases c : a = p
  · subst c; rw [upd_same] at z; rw [h]; exact z
  · rw [upd_ne c] at z; exact e a u z
/-- the value may read self's own attributes -/
theorem s_fldS {p dx : Addr} {fs : List (Str × V)} (e : Ex G H) (hp : H p = some (.ins C dx fs)) (gp : G p = none) (hv : EvD tv σ (upd G p (.ins C dx fs)) r) (hoff : ∀ y G2, G2 p = some (.ins C dx fs) → r.p y G2 → r.p y (off p G2)) (ha : Ev ta σ G (.ref p)) (hc : Cls K C) (hn : NoAttr K C f) (hl : fs.length < 1000)
    (k : ∀ y G2 H2, Ex G G2 → (∀ a o, H a = some o → a ≠ p → H2 a = some o) → Ex G2 H2 → (∀ a o, H a = some o → G a = none → G2 a = none) → G2 p = none → r.p y G2 → H2 p = some (.ins C dx (putF f y fs)) → D.nx σ H2) : sFld K ta tv f D σ H :=
  hv H (ex_add e hp) _ fun y G2 H2 g hy => ha H2 (e.trans g.h) _ fun H3 e3 => by
    have g2 : G2 p = some (.ins C dx fs) := g.g p _ upd_same
    refine ⟨p, C, dx, fs, rfl, e3 _ _ (g.h _ _ hp), hc, hn, hl, k y (off p G2) _ (ex_in_off ((Ex.new gp).trans g.g) gp) (fun a o z n => ?_) (Ex.mut (ex_off.trans (g.i.trans e3)) off_self) (fun a o z y => ?_) off_self (hoff y G2 g2 hy) upd_same⟩
    · rw [upd_ne n]
      exact e3 a o (g.h a o z)
    · by_cases c : a = p
      · subst c; exact off_self
      · rw [off_ne c]
        exact g.n a o z (by rw [upd_ne c]; exact y)
theorem rT_off {p C' dx : Addr} {fs : List (Str × V)} {rs : List Rp} {y : V} {G2 : Hp} (h : G2 p = some (.ins C' dx fs)) (hr : ∀ r ∈ rs, ∀ v, r.p v G2 → r.p v (off p G2)) (q : (rT K rs).p y G2) : (rT K rs).p y (off p G2) := by
  obtain ⟨a, vs, rfl, h1, h2⟩ := q
  refine ⟨a, vs, rfl, ?_, ?_⟩
  · rcases h1 with (h1 | ⟨o, h1⟩) | h1
    · exact .inl (.inl (by rw [off_ne (ne_of h1 h (by intro z; cases z))]; exact h1))
    · exact .inl (.inr ⟨o, by rw [off_ne (ne_of h1 h (by intro z; cases z))]; exact h1⟩)
    · exact .inr h1
  · clear h1
    induction h2 with
    | nil => exact .nil
    | cons a t ih => exact .cons (hr _ List.mem_cons_self _ a) (ih fun r hm v => hr r (List.mem_cons_of_mem _ hm) v)
theorem rP_off {p C' dx : Addr} {fs : List (Str × V)} {l : List (Nat × Nat)} {y : V} {G2 : Hp} (h : G2 p = some (.ins C' dx fs)) (q : (rT K (l.map (rP K))).p y G2) : (rT K (l.map (rP K))).p y (off p G2) := by
  refine rT_off h (fun r hr v hv => ?_) q
  obtain ⟨z, _, rfl⟩ := List.mem_map.mp hr
  refine rT_off h (fun r hr v hv => ?_) hv
  simp at hr
  rcases hr with rfl | rfl <;> exact hv
end
section
variable {K : PySem.W.Frag} {C : Addr} {σ : L2.St} {G H : Hp} {ta tb : TE} {m : List Nat} {f : Str} {sp : Sp} {E : XK}
theorem en_meth {rs : List Rp} (h : EvD ta σ G (rTab K C m)) (hf : (f == "size" || (f == "masks" || f == "cells")) = false) (hs : ∀ v G2, Ex G G2 → (rTab K C m).p v G2 → SpN sp [v] G2 rs) : EvN (tMeth C f sp [] E ta tNil) σ G rs := fun H e Q q =>
  h H e _ fun v G2 H2 g hv => by
    obtain ⟨a, dx, t, c, rfl, h2, h3⟩ := id hv
    exact ⟨a, dx, _, rfl, g.i _ _ h2, tabF_no hf, hs _ G2 g.g hv H2 g.i Q (fun p ws G3 H3 g3 hp gp h4 ra => q p ws G3 H3 (g.trans g3) (fresh_back g.h hp) gp h4 ra) E⟩
theorem ed_meth {r : Rp} (h : EvD ta σ G (rTab K C m)) (hf : (f == "size" || (f == "masks" || f == "cells")) = false) (hs : ∀ v G2, Ex G G2 → (rTab K C m).p v G2 → SpD sp [v] G2 r) : EvD (tMeth C f sp [] E ta tNil) σ G r := fun H e Q q =>
  h H e _ fun v G2 H2 g hv => by
    obtain ⟨a, dx, t, c, rfl, h2, h3⟩ := id hv
    exact ⟨a, dx, _, rfl, g.i _ _ h2, tabF_no hf, hs _ G2 g.g hv H2 g.i Q (fun v G3 H3 g3 hv3 => q v G3 H3 (g.trans g3) hv3) E⟩
/-- one OP other, both tables -/
theorem ed_own2 {r : Rp} {m' : List Nat} (ha : EvD ta σ G (rTab K C m)) (hb : EvD tb σ G (rTab K C m')) (hs : ∀ x y G2, Ex G G2 → (rTab K C m).p x G2 → (rTab K C m').p y G2 → SpD sp [x, y] G2 r) : EvD (tOp (rOwn2 C sp E) ta tb) σ G r :=
  ed_op ha hb fun x y G2 H e1 e2 hx hy Q q => by
    obtain ⟨a, dx, t, c, rfl, h2, _⟩ := id hx
    obtain ⟨a', dx', t', c', rfl, h2', _⟩ := id hy
    exact ⟨a, a', dx, _, dx', _, rfl, rfl, e2 _ _ h2, e2 _ _ h2', hs _ _ G2 e1 hx hy H e2 Q q E⟩
end
section
variable {K : PySem.W.Frag} {C : Addr} {σ : L2.St} {G H : Hp} {te tl : TE} {E : XK}
theorem masks_bits (m : List Nat) : (m.map bitsN).map maskN = m := by
  rw [List.map_map]
  exact (List.map_congr_left fun a _ => maskN_bits a).trans (List.map_id _)
theorem rows_ok {n : Nat} {m : List Nat} (w : Wf n m) (h6 : n ≤ 6) : ∀ r ∈ m.map bitsN, r.length ≤ 100 ∧ ∀ x ∈ r, x < (m.map bitsN).length := fun r hr => by
  obtain ⟨a, ha, rfl⟩ := List.mem_map.mp hr
  refine ⟨Nat.le_trans (bits_len (w.lt a ha)) (by omega), fun x hx => ?_⟩
  rw [List.length_map, w.len]
  exact bit_lt (w.lt a ha) (mem_bits.mp hx)
/-- Table(rows), the rows of masks -/
theorem ed_tabRows {n : Nat} {m : List Nat} (h : EvD te σ G (rLL K (m.map bitsN))) (w : Wf n m) (h1 : 1 ≤ n) (h6 : n ≤ 6) : EvD (tMake C (spTab K C) [] E (tCons te tNil)) σ G (rTab K C m) :=
  ed_is (ed_tab h (by rw [List.length_map, w.len]; exact h1) (by rw [List.length_map, w.len]; exact h6) (rows_ok w h6)) (by rw [masks_bits])
/-- [list(row) for row in rows] -/
theorem ed_copy {rows : List (List Nat)} {j : Nat} (h : EvD tl σ G (rLL K rows)) (hz : rows.length ≤ 1000) (hw : ∀ x, wipe ((wipe σ [j]).set j (some x)) [j] = wipe σ [j]) (hg : ∀ x, ((wipe σ [j]).set j (some x))[j]? = some (some x)) : EvD (tLc (iList K tl) (gName j) tYes (tCB (rListS K) (tCons (tVar j) tNil)) [j]) σ G (rLL K rows) :=
  EvN.d (en_lcL0 rows (rLn K) (rLn K) h (by omega) hw fun r y G1 hr e1 hy => EvN.d (en_listL (ed_var (hg y) hy)))
end
section
variable {K : PySem.W.Frag} {C : Addr} {σ : L2.St} {G H : Hp} {ta : TE} {m : List Nat} {sp : Sp} {E : XK}
theorem ed_own1 {r : Rp} (ha : EvD ta σ G (rTab K C m)) (hs : ∀ x G2, Ex G G2 → (rTab K C m).p x G2 → SpD sp [x] G2 r) : EvD (tUn (rOwn1 C sp E) ta) σ G r := fun H e Q q =>
  ha H e _ fun v G2 H2 g hv => by
    obtain ⟨a, dx, t, c, rfl, h2, _⟩ := id hv
    exact ⟨a, dx, _, rfl, g.i _ _ h2, hs _ G2 g.g hv H2 g.i Q (fun v G3 H3 g3 hv3 => q v G3 H3 (g.trans g3) hv3) E⟩
theorem ru_inv {i : Int} {H : Hp} : RU (rU fun i => .int (Builtin.bitNot i)) (.int i) H (.int (Builtin.bitNot i)) := fun H1 _ _ q => ⟨i, rfl, q H1 (Ex.refl H1)⟩
end
end Mu

namespace Mu
open PySem L2 Evl
/-! ### isinstance -/
structure IsC (K : PySem.W.Frag) (C : Addr) : Prop where
  c : Cls K C
  a : PySem.W.findIn K (.ref C) "__class__" = some (some (.builtin "object.__class__"))
  g : PySem.W.specialIn K (.builtin "object.__class__") "__get__" = some (some (.builtin "getset_descriptor.__get__"))
  t : PySem.W.takesIn K (.builtin "object.__class__") = some true
  m : PySem.W.mroIn K C (.type "object") = some true
theorem isCB_ok {K : PySem.W.Frag} {C : Addr} (c : Cls K C) (h : isCB K C = true) : IsC K C := by
  obtain ⟨h1, h⟩ := He.ba h
  obtain ⟨h2, h⟩ := He.ba h
  obtain ⟨h3, h4⟩ := He.ba h
  exact ⟨c, He.eqO_ok h1, He.eqO_ok h2, of_decide_eq_true h3, of_decide_eq_true h4⟩
section
variable {K : PySem.W.Frag} {C : Addr} {σ : L2.St} {G H : Hp} {ta te : TE} {m : List Nat}
theorem ev_isi {r : Rp} {c : V} {u : Value} {b : Bool} (h : EvD ta σ G r) (hc : ClsV c u) (ht : ∀ v H, r.p v H → ∃ t, TyX K H v t ∧ PySem.W.kitOne K t u = some b) : Ev (tCB (rIsi K) (tCons ta (tCons (tC c) tNil))) σ G (.bl b) := fun H e Q q =>
  h H e _ fun v G2 H2 g hv => by
    obtain ⟨t, h1, h2⟩ := ht v H2 (r.mono g.i hv)
    exact ⟨v, c, t, u, b, rfl, hc, h1, h2, q H2 g.h⟩
theorem kit_same {t : Value} : PySem.W.kitOne K t t = some true := by unfold PySem.W.kitOne; simp
theorem ty_list {rs : List Rp} {v : V} (h : (rL K rs).p v H) : TyX K H v (.type "list") := by
  obtain ⟨a, vs, rfl, h1, _⟩ := h
  exact .base (.lst h1)
theorem ty_tup {rs : List Rp} {v : V} (h : (rT K rs).p v H) : TyX K H v (.type "tuple") := by
  obtain ⟨a, vs, rfl, h1, _⟩ := h
  rcases h1 with (h1 | ⟨o, h1⟩) | ⟨o, its, n, h1, h2, _⟩
  · exact .base (.tup h1)
  · exact .fTuple h1
  · exact .kTuple h1 h2
theorem ty_tab (c : IsC K C) {v : V} (h : (rTab K C m).p v H) : TyX K H v (.ref C) := by
  obtain ⟨a, dx, t, cc, rfl, h2, _⟩ := h
  exact .base (.ins h2 c.c c.a c.g c.t c.m)
theorem is_int {i : Int} (h : Ev ta σ G (.int i)) : Ev (tCB (rIsi K) (tCons ta (tCons (tC (.ty "int")) tNil))) σ G (.bl true) := ev_isi (Ev.d h) (.ty _) fun v H hv => ⟨_, by obtain rfl : v = V.int i := hv; exact .base (.int i), kit_same⟩
theorem is_bool_int {i : Int} (h : Ev ta σ G (.int i)) : Ev (tCB (rIsi K) (tCons ta (tCons (tC (.ty "bool")) tNil))) σ G (.bl false) := ev_isi (Ev.d h) (.ty _) fun v H hv => ⟨_, by obtain rfl : v = V.int i := hv; exact .base (.int i), kit_ty (by decide +kernel)⟩
theorem is_list {rs : List Rp} (h : EvD ta σ G (rL K rs)) : Ev (tCB (rIsi K) (tCons ta (tCons (tC (.ty "list")) tNil))) σ G (.bl true) := ev_isi h (.ty _) fun v H hv => ⟨_, ty_list hv, kit_same⟩
theorem is_tup {rs : List Rp} (h : EvD ta σ G (rT K rs)) : Ev (tCB (rIsi K) (tCons ta (tCons (tC (.ty "tuple")) tNil))) σ G (.bl true) := ev_isi h (.ty _) fun v H hv => ⟨_, ty_tup hv, kit_same⟩
theorem is_tab (c : IsC K C) (h : EvD ta σ G (rTab K C m)) : Ev (tCB (rIsi K) (tCons ta (tCons (tC (.ref C)) tNil))) σ G (.bl true) := ev_isi h (.own _) fun v H hv => ⟨_, ty_tab c hv, kit_same⟩
/-! ### == of data -/
/-- the data that a value stands for -/
def AsD (K : PySem.W.Frag) (r : Rp) (d : PyData) : Prop := ∀ v H, r.p v H → Dp K H v d
theorem asd_int (i : Int) : AsD K (rI i) (.int i) := fun v H h => by obtain rfl : v = V.int i := h; exact .int i
theorem asd_str (z : Str) : AsD K (rS z) (.str z) := fun v H h => by obtain rfl : v = V.str z := h; exact .str z
theorem asd_bl (b : Bool) : AsD K (rB b) (.bool b) := fun v H h => by obtain rfl : v = V.bl b := h; exact .bl b
theorem asd_non : AsD K (rV .non) .none := fun v H h => by obtain rfl : v = V.non := h; exact .non
theorem asd_all {H : Hp} {α : Type} {ρ : α → Rp} {δ : α → PyData} (h : ∀ a, AsD K (ρ a) (δ a)) : ∀ {l : List α} {vs : List V}, RA H vs (l.map ρ) → DpAll K H vs (l.map δ)
  | [], _, .nil => .nil
  | a :: r, _, .cons q t => .cons (h a _ _ q) (asd_all h t)
theorem asd_list {α : Type} {ρ : α → Rp} {δ : α → PyData} (h : ∀ a, AsD K (ρ a) (δ a)) (l : List α) : AsD K (rL K (l.map ρ)) (.list (l.map δ)) := fun v H q => by
  obtain ⟨a, vs, rfl, h1, h2⟩ := q
  exact .lst (sq_of h1) (asd_all h h2)
theorem asd_tup {α : Type} {ρ : α → Rp} {δ : α → PyData} (h : ∀ a, AsD K (ρ a) (δ a)) (l : List α) : AsD K (rT K (l.map ρ)) (.tuple (l.map δ)) := fun v H q => by
  obtain ⟨a, vs, rfl, h1, h2⟩ := q
  exact .tup h1 (asd_all h h2)
abbrev dN (n : Nat) : PyData := .int (n : Int)
abbrev dLn (l : List Nat) : PyData := .list (l.map dN)
abbrev dTn (l : List Nat) : PyData := .tuple (l.map dN)
abbrev dLL (l : List (List Nat)) : PyData := .list (l.map dLn)
abbrev dP (p : Nat × Nat) : PyData := .tuple [.int (p.1 : Int), .int (p.2 : Int)]
theorem asd_ln (l : List Nat) : AsD K (rLn K l) (dLn l) := asd_list (fun a => asd_int _) l
theorem asd_tn (l : List Nat) : AsD K (rTn K l) (dTn l) := asd_tup (fun a => asd_int _) l
theorem asd_ll (l : List (List Nat)) : AsD K (rLL K l) (dLL l) := asd_list asd_ln l
theorem asd_p (p : Nat × Nat) : AsD K (rP K p) (dP p) := fun v H q => by
  obtain ⟨a, vs, rfl, h1, h2⟩ := q
  obtain ⟨x, y, rfl, hx, hy⟩ := ra2 h2
  obtain rfl : x = V.int (p.1 : Int) := hx
  obtain rfl : y = V.int (p.2 : Int) := hy
  exact .tup h1 (.cons (.int _) (.cons (.int _) .nil))
theorem ev_eqD {r1 r2 : Rp} {d1 d2 : PyData} {tb : TE} (ha : EvD ta σ G r1) (hb : EvD tb σ G r2) (a1 : AsD K r1 d1) (a2 : AsD K r2 d2) (s1 : SeqAt.shaped d1 = true) (s2 : SeqAt.shaped d2 = true) : Ev (tOp (rEqD K) ta tb) σ G (.bl (PyData.eqv d1 d2)) :=
  ev_op2 ha hb fun x y H hx hy Q q => ⟨d1, d2, a1 x H hx, a2 y H hy, s1, s2, q⟩
theorem ev_neD {r1 r2 : Rp} {d1 d2 : PyData} {tb : TE} (ha : EvD ta σ G r1) (hb : EvD tb σ G r2) (a1 : AsD K r1 d1) (a2 : AsD K r2 d2) (s1 : SeqAt.shaped d1 = true) (s2 : SeqAt.shaped d2 = true) : Ev (tOp (rNeD K) ta tb) σ G (.bl (!PyData.eqv d1 d2)) :=
  ev_op2 ha hb fun x y H hx hy Q q => ⟨d1, d2, a1 x H hx, a2 y H hy, s1, s2, q⟩
end
end Mu
namespace Mu
open PySem L2 Evl
/-! ### shapes and equality of such data -/
def Sh (k : Nat) (d : PyData) : Prop := d.canLay0 = true ∧ d.depth ≤ k
theorem sh_all {α : Type} {δ : α → PyData} {k : Nat} (h : ∀ a, Sh k (δ a)) : ∀ l : List α, PyData.canLayAll0 (l.map δ) = true ∧ PyData.depthAll (l.map δ) ≤ k
  | [] => ⟨rfl, Nat.zero_le _⟩
  | a :: r => by
    obtain ⟨h1, h2⟩ := sh_all h r
    refine ⟨?_, ?_⟩
    · rw [List.map_cons]; unfold PyData.canLayAll0; rw [(h a).1, h1]; rfl
    · rw [List.map_cons]; unfold PyData.depthAll; exact Nat.max_le.mpr ⟨(h a).2, h2⟩
theorem sh_list {α : Type} {δ : α → PyData} {k : Nat} (h : ∀ a, Sh k (δ a)) (l : List α) : Sh (k + 1) (.list (l.map δ)) := by
  obtain ⟨h1, h2⟩ := sh_all h l
  refine ⟨by unfold PyData.canLay0; exact h1, ?_⟩
  unfold PyData.depth; omega
theorem sh_tup {α : Type} {δ : α → PyData} {k : Nat} (h : ∀ a, Sh k (δ a)) (l : List α) : Sh (k + 1) (.tuple (l.map δ)) := by
  obtain ⟨h1, h2⟩ := sh_all h l
  refine ⟨by unfold PyData.canLay0; exact h1, ?_⟩
  unfold PyData.depth; omega
theorem sh_int (i : Int) : Sh 1 (.int i) := ⟨by unfold PyData.canLay0; rfl, by unfold PyData.depth; omega⟩
theorem Sh.ok {k : Nat} {d : PyData} (h : Sh k d) (hk : k ≤ 64) : SeqAt.shaped d = true := by
  unfold SeqAt.shaped
  rw [h.1, decide_eq_true (Nat.le_trans h.2 hk)]; rfl
theorem Sh.mono {k j : Nat} {d : PyData} (h : Sh k d) (hk : k ≤ j) : Sh j d := ⟨h.1, Nat.le_trans h.2 hk⟩
theorem sh_ln (l : List Nat) : Sh 2 (dLn l) := sh_list (fun a => sh_int _) l
theorem sh_tn (l : List Nat) : Sh 2 (dTn l) := sh_tup (fun a => sh_int _) l
theorem sh_ll (l : List (List Nat)) : Sh 3 (dLL l) := sh_list sh_ln l
theorem sh_p (p : Nat × Nat) : Sh 2 (dP p) := sh_tup (fun a : Nat => sh_int (a : Int)) [p.1, p.2]
theorem eqv_all {α : Type} [DecidableEq α] {δ : α → PyData} (h : ∀ a b, PyData.eqv (δ a) (δ b) = decide (a = b)) : ∀ l m : List α, PyData.eqvAll (l.map δ) (m.map δ) = decide (l = m)
  | [], [] => by simp [PyData.eqvAll]
  | [], _ :: _ => by simp [PyData.eqvAll]
  | _ :: _, [] => by simp [PyData.eqvAll]
  | a :: l, b :: m => by
    rw [List.map_cons, List.map_cons, PyData.eqvAll, h a b, eqv_all h l m, Bool.eq_iff_iff]
    simp
theorem eqv_n (a b : Nat) : PyData.eqv (dN a) (dN b) = decide (a = b) := by
  rw [Bool.eq_iff_iff]
  simp [PyData.eqv]
  omega
theorem eqv_ln (a b : List Nat) : PyData.eqv (dLn a) (dLn b) = decide (a = b) := by
  show PyData.eqv (.list _) (.list _) = _
  rw [PyData.eqv]; exact eqv_all eqv_n a b
theorem eqv_tn (a b : List Nat) : PyData.eqv (dTn a) (dTn b) = decide (a = b) := by
  show PyData.eqv (.tuple _) (.tuple _) = _
  rw [PyData.eqv]; exact eqv_all eqv_n a b
theorem eqv_ll (a b : List (List Nat)) : PyData.eqv (dLL a) (dLL b) = decide (a = b) := by
  show PyData.eqv (.list _) (.list _) = _
  rw [PyData.eqv]; exact eqv_all eqv_ln a b
theorem eqv_p (a b : Nat × Nat) : PyData.eqv (dP a) (dP b) = decide (a = b) := by
  obtain ⟨a1, a2⟩ := a
  obtain ⟨b1, b2⟩ := b
  show PyData.eqv (.tuple _) (.tuple _) = _
  rw [PyData.eqv, Bool.eq_iff_iff]
  simp [PyData.eqvAll, PyData.eqv]
  omega
section
variable {K : PySem.W.Frag} {σ : L2.St} {G : Hp} {ta tb : TE}
theorem et_eqLn {l m : List Nat} (ha : EvD ta σ G (rLn K l)) (hb : EvD tb σ G (rLn K m)) : EvT (tTest (tOp (rEqD K) ta tb)) σ G (decide (l = m)) := eqv_ln l m ▸ et_test (ev_eqD ha hb (asd_ln l) (asd_ln m) ((sh_ln l).ok (by decide)) ((sh_ln m).ok (by decide)))
theorem et_neLn {l m : List Nat} (ha : EvD ta σ G (rLn K l)) (hb : EvD tb σ G (rLn K m)) : EvT (tTest (tOp (rNeD K) ta tb)) σ G (!decide (l = m)) := eqv_ln l m ▸ et_test (ev_neD ha hb (asd_ln l) (asd_ln m) ((sh_ln l).ok (by decide)) ((sh_ln m).ok (by decide)))
theorem et_neLL {l m : List (List Nat)} (ha : EvD ta σ G (rLL K l)) (hb : EvD tb σ G (rLL K m)) : EvT (tTest (tOp (rNeD K) ta tb)) σ G (!decide (l = m)) := eqv_ll l m ▸ et_test (ev_neD ha hb (asd_ll l) (asd_ll m) ((sh_ll l).ok (by decide)) ((sh_ll m).ok (by decide)))
theorem et_neP {l m : Nat × Nat} (ha : EvD ta σ G (rP K l)) (hb : EvD tb σ G (rP K m)) : EvT (tTest (tOp (rNeD K) ta tb)) σ G (!decide (l = m)) := eqv_p l m ▸ et_test (ev_neD ha hb (asd_p l) (asd_p m) ((sh_p l).ok (by decide)) ((sh_p m).ok (by decide)))
theorem ev_eqTn {l m : List Nat} (ha : EvD ta σ G (rTn K l)) (hb : EvD tb σ G (rTn K m)) : Ev (tOp (rEqD K) ta tb) σ G (.bl (decide (l = m))) := eqv_tn l m ▸ ev_eqD ha hb (asd_tn l) (asd_tn m) ((sh_tn l).ok (by decide)) ((sh_tn m).ok (by decide))
theorem ev_neTn {l m : List Nat} (ha : EvD ta σ G (rTn K l)) (hb : EvD tb σ G (rTn K m)) : Ev (tOp (rNeD K) ta tb) σ G (.bl (!decide (l = m))) := eqv_tn l m ▸ ev_neD ha hb (asd_tn l) (asd_tn m) ((sh_tn l).ok (by decide)) ((sh_tn m).ok (by decide))
/-! ### in a list of ints -/
theorem ints_flat (l : List Nat) : (l.map fun (n : Nat) => V.int (n : Int)).all flatV = true := by
  rw [List.all_map]
  exact List.all_eq_true.mpr fun _ _ => rfl
theorem inV_nat (w : Nat) (l : List Nat) : inV (.int (w : Int)) (l.map fun (n : Nat) => V.int (n : Int)) = decide (w ∈ l) := by
  unfold inV
  rw [List.any_map, Bool.eq_iff_iff, List.any_eq_true, decide_eq_true_iff]
  constructor
  · rintro ⟨x, hx, h⟩
    have : x = w := by
      have h2 : eqV (.int (x : Int)) (.int (w : Int)) = true := h
      simp [eqV] at h2
      omega
    rw [← this]; exact hx
  · intro h
    exact ⟨w, h, by simp [eqV]⟩
theorem ev_inLn {l : List Nat} {w : Nat} {neg : Bool} (ha : Ev ta σ G (.int (w : Int))) (hb : EvD tb σ G (rLn K l)) : Ev (tOp (rIn K neg) ta tb) σ G (.bl (if neg then !decide (w ∈ l) else decide (w ∈ l))) :=
  ev_op2 (Ev.d ha) hb fun x y H hx hy Q q => by
    obtain rfl : x = V.int (w : Int) := hx
    obtain ⟨a, vs, rfl, h1, h2⟩ := hy
    have e := ra_nats_eq h2
    subst e
    exact ⟨a, _, rfl, .inl (sq_of h1), rfl, ints_flat l, by rw [inV_nat]; exact q⟩
theorem et_in {l : List Nat} {w : Nat} (ha : Ev ta σ G (.int (w : Int))) (hb : EvD tb σ G (rLn K l)) : EvT (tTest (tOp (rIn K false) ta tb)) σ G (decide (w ∈ l)) := et_test (ev_inLn (neg := false) ha hb)
theorem et_notIn {l : List Nat} {w : Nat} (ha : Ev ta σ G (.int (w : Int))) (hb : EvD tb σ G (rLn K l)) : EvT (tTest (tOp (rIn K true) ta tb)) σ G (!decide (w ∈ l)) := et_test (ev_inLn (neg := true) ha hb)
end
end Mu

namespace Mu
open PySem L2 Evl
/-! ### the law's box: a list [cells, place, digits, state] that every draw changes -/
structure Box (K : PySem.W.Frag) (G H : Hp) (b : Addr) : Prop where
  ex : ∃ (c : Addr) (cells : List Int) (i x y : Int), H b = some (.lst [.ref c, .int i, .int x, .int y]) ∧ G c = some (.lst (cells.map V.int)) ∧ (∀ z ∈ cells, 0 ≤ z) ∧ 0 ≤ i ∧ 0 ≤ x ∧ 0 ≤ y ∧ y < 2147483647
theorem Box.mono {K : PySem.W.Frag} {G G' H H' : Hp} {b : Addr} (h : Box K G H b) (g : Ex G G') (e : Ex H H') : Box K G' H' b := by
  obtain ⟨c, cells, i, x, y, h1, h2, h3⟩ := h.ex
  exact ⟨c, cells, i, x, y, e _ _ h1, g _ _ h2, h3⟩
theorem Box.mono' {K : PySem.W.Frag} {G G' H H' : Hp} {b : Addr} (h : Box K G H b) (g : Ex G G') (e : ∀ o, H b = some o → H' b = some o) : Box K G' H' b := by
  obtain ⟨c, cells, i, x, y, h1, h2, h3⟩ := h.ex
  exact ⟨c, cells, i, x, y, e _ h1, g _ _ h2, h3⟩
theorem Box.at_ {K : PySem.W.Frag} {G H : Hp} {b : Addr} (h : Box K G H b) : ∃ o, H b = some o := by
  obtain ⟨c, cells, i, x, y, h1, _⟩ := h.ex
  exact ⟨_, h1⟩
/-- the box at b may have changed -/
structure GrB (b : Addr) (G H G2 H2 : Hp) : Prop where
  g : Ex G G2
  h : ∀ a o, H a = some o → a ≠ b → H2 a = some o
  i : Ex G2 H2
  n : ∀ a o, H a = some o → G a = none → G2 a = none
theorem Gr.b {b : Addr} {G H G2 H2 : Hp} (g : Gr G H G2 H2) : GrB b G H G2 H2 := ⟨g.g, fun a o z _ => g.h a o z, g.i, g.n⟩
theorem GrB.refl {b : Addr} {G H : Hp} (e : Ex G H) : GrB b G H G H := (Gr.refl e).b
theorem GrB.trans {b : Addr} {G H G2 H2 G3 H3 : Hp} (gb : G b = none) (hb : ∃ o, H b = some o) (a : GrB b G H G2 H2) (c : GrB b G2 H2 G3 H3) (hb2 : ∃ o, H2 b = some o) : GrB b G H G3 H3 :=
  ⟨a.g.trans c.g, fun x o z n => c.h x o (a.h x o z n) n, c.i, fun x o z y => by
    have y2 := a.n x o z y
    by_cases q : x = b
    · subst q
      obtain ⟨o2, z2⟩ := hb2
      exact c.n x o2 z2 y2
    · exact c.n x o (a.h x o z q) y2⟩
theorem GrB.out {b : Addr} {G H G2 H2 : Hp} (a : GrB b G H G2 H2) (gb : G b = none) (hb : ∃ o, H b = some o) : G2 b = none := by
  obtain ⟨o, z⟩ := hb
  exact a.n b o z gb
theorem GrB.more {b : Addr} {G H G2 H2 H3 : Hp} (a : GrB b G H G2 H2) (e : Ex H2 H3) : GrB b G H G2 H3 := ⟨a.g, fun x o z n => e x o (a.h x o z n), a.i.trans e, a.n⟩
/-- all that stood ahead and is not b -/
theorem GrB.all {b : Addr} {G H G2 H2 : Hp} (a : GrB b G H G2 H2) : Ex (off b H) H2 := fun x o z => by
  by_cases q : x = b
  · subst q; rw [off_self] at z; cases z
  · rw [off_ne q] at z; exact a.h x o z q

section
variable (K : PySem.W.Frag)
def EvB (te : TE) (σ : L2.St) (b : Addr) (G : Hp) (P : Rp → Prop) : Prop := ∀ H, Ex G H → G b = none → Box K G H b → ∀ Q : VK, (∀ r v G2 H2, P r → GrB b G H G2 H2 → Box K G2 H2 b → r.p v G2 → Q v H2) → te σ H Q
/-- a new list, outside the footprint -/
def EvBN (te : TE) (σ : L2.St) (b : Addr) (G : Hp) (P : List Rp → Prop) : Prop := ∀ H, Ex G H → G b = none → Box K G H b → ∀ Q : VK, (∀ rs p vs G2 H2, P rs → GrB b G H G2 H2 → Box K G2 H2 b → H p = none → G2 p = none → H2 p = some (.lst vs) → RA G2 vs rs → Q (.ref p) H2) → te σ H Q
def EvTB (tt : TT) (σ : L2.St) (b : Addr) (G : Hp) (P : Bool → Prop) : Prop := ∀ H, Ex G H → G b = none → Box K G H b → ∀ Q : Bool → Hp → Prop, (∀ c G2 H2, P c → GrB b G H G2 H2 → Box K G2 H2 b → Q c H2) → tt σ H Q
def spB (R : List V → Hp → (Rp → Prop) → Prop) : Sp := fun vs H Q _ => ∃ G b ws P, vs = .ref b :: ws ∧ Ex G H ∧ G b = none ∧ Box K G H b ∧ R ws G P ∧ ∀ r v G2 H2, P r → GrB b G H G2 H2 → Box K G2 H2 b → r.p v G2 → Q v H2
def spBN (R : List V → Hp → (List Rp → Prop) → Prop) : Sp := fun vs H Q _ => ∃ G b ws P, vs = .ref b :: ws ∧ Ex G H ∧ G b = none ∧ Box K G H b ∧ R ws G P ∧ ∀ rs p vs G2 H2, P rs → GrB b G H G2 H2 → Box K G2 H2 b → H p = none → G2 p = none → H2 p = some (.lst vs) → RA G2 vs rs → Q (.ref p) H2
/-- a draw below n -/
def PN (n : Nat) : Rp → Prop := fun r => ∃ d : Nat, d < n ∧ r = nI d
/-- take(box, m): a number below m; only the box changes, and it stays a box over whatever footprint it was one -/
def spT : Sp := fun vs H Q _ => ∃ G b m, vs = [.ref b, .int ((m : Nat) : Int)] ∧ Ex G H ∧ G b = none ∧ Box K G H b ∧ 0 < m ∧ m < 2 ^ 30 ∧ ∀ (d : Nat) H2, d < m → (∀ a o, H a = some o → a ≠ b → H2 a = some o) → (∀ G', Box K G' H b → Box K G' H2 b) → Q (.int (d : Int)) H2
/-- a plain value, by draws alone -/
def EvBI (te : TE) (σ : L2.St) (b : Addr) (G : Hp) (PV : V → Prop) : Prop := ∀ H, Ex G H → G b = none → Box K G H b → ∀ Q : VK, (∀ v H2, PV v → (∀ a o, H a = some o → a ≠ b → H2 a = some o) → (∀ G', Box K G' H b → Box K G' H2 b) → Q v H2) → te σ H Q
end
section
variable {K : PySem.W.Frag} {σ : L2.St} {b : Addr} {G H : Hp} {te ta tb : TE} {P P1 : Rp → Prop} {D : Ends} {tu tw : TS} {i i0 : Nat} {E : XK}
theorem EvD.bx {r : Rp} (h : EvD te σ G r) : EvB K te σ b G (fun x => x = r) := fun H e gb hb Q q => h H e Q fun v G2 H2 g hv => q r v G2 H2 rfl g.b (hb.mono g.g g.h) hv
theorem EvB.imp {P' : Rp → Prop} (h : EvB K te σ b G P) (hp : ∀ r, P r → P' r) : EvB K te σ b G P' := fun H e gb hb Q q => h H e gb hb Q fun r v G2 H2 p => q r v G2 H2 (hp r p)
theorem EvBN.d {P : List Rp → Prop} (h : EvBN K te σ b G P) : EvB K te σ b G (fun r => ∃ rs, P rs ∧ r = rL K rs) := fun H e gb hb Q q => h H e gb hb Q fun rs p vs G2 H2 hP g hb2 hp gp h2 ra =>
  q (rL K rs) (.ref p) (upd G2 p (.lst vs)) H2 ⟨rs, hP, rfl⟩ ⟨g.g.trans (Ex.new gp), g.h, ex_add g.i h2, fun a o z y => by rw [upd_ne (ne_of_none z hp)]; exact g.n a o z y⟩ (hb2.mono (Ex.new gp) (Ex.refl _)) ⟨p, vs, rfl, upd_same, ra.mono (Ex.new gp)⟩
theorem eb_call {ta : TA} {rs : List Rp} {R : List V → Hp → (Rp → Prop) → Prop} (hv : σ[i0]? = some (some (.ref b))) (h : EvAD ta σ G rs) (hs : ∀ ws G2, Ex G G2 → RA G2 ws rs → R ws G2 P) : EvB K (tCall (spB K R) [] E (tCons (tVar i0) ta)) σ b G P := fun H e gb hb Q q =>
  ⟨.ref b, hv, h H e _ fun ws G2 H2 g hw => by
    show spB K R ((V.ref b :: ws) ++ []) H2 Q E
    rw [List.append_nil]
    have gb2 : G2 b = none := by obtain ⟨o, z⟩ := hb.at_; exact g.n b o z gb
    refine ⟨G2, b, ws, P, rfl, g.i, gb2, hb.mono g.g g.h, hs ws G2 g.g hw, fun r v G3 H3 p g3 hb3 hv3 => q r v G3 H3 p (g.b.trans gb hb.at_ g3 (hb.mono g.g g.h).at_) hb3 hv3⟩⟩
theorem ebn_call {ta : TA} {rs : List Rp} {P : List Rp → Prop} {R : List V → Hp → (List Rp → Prop) → Prop} (hv : σ[i0]? = some (some (.ref b))) (h : EvAD ta σ G rs) (hs : ∀ ws G2, Ex G G2 → RA G2 ws rs → R ws G2 P) : EvBN K (tCall (spBN K R) [] E (tCons (tVar i0) ta)) σ b G P := fun H e gb hb Q q =>
  ⟨.ref b, hv, h H e _ fun ws G2 H2 g hw => by
    show spBN K R ((V.ref b :: ws) ++ []) H2 Q E
    rw [List.append_nil]
    have gb2 : G2 b = none := by obtain ⟨o, z⟩ := hb.at_; exact g.n b o z gb
    refine ⟨G2, b, ws, P, rfl, g.i, gb2, hb.mono g.g g.h, hs ws G2 g.g hw, fun rs' p vs G3 H3 p3 g3 hb3 hp gp h3 ra => q rs' p vs G3 H3 p3 (g.b.trans gb hb.at_ g3 (hb.mono g.g g.h).at_) hb3 (fresh_back g.h hp) gp h3 ra⟩⟩
theorem EvBI.eb {PV : V → Prop} (h : EvBI K te σ b G PV) : EvB K te σ b G (fun r => ∃ v, PV v ∧ r = rV v) := fun H e gb hb Q q => h H e gb hb Q fun v H2 p k s => q (rV v) v G H2 ⟨v, p, rfl⟩ ⟨Ex.refl G, k, fun a o z => k a o (e a o z) (fun q => by subst q; rw [gb] at z; cases z), fun _ _ _ z => z⟩ (s G hb) rfl
/-- take(box, m) -/
theorem ebi_take {m : Nat} (hv : σ[i0]? = some (some (.ref b))) (h : Ev te σ G (.int (m : Int))) (h0 : 0 < m) (h1 : m < 2 ^ 30) : EvBI K (tCall (spT K) [] E (tCons (tVar i0) (tCons te tNil))) σ b G (fun v => ∃ d : Nat, d < m ∧ v = .int (d : Int)) := fun H e gb hb Q q =>
  ⟨.ref b, hv, h H e _ fun H2 e2 => by
    show spT K (([V.ref b, V.int (m : Int)]) ++ []) H2 Q E
    rw [List.append_nil]
    refine ⟨G, b, m, rfl, e.trans e2, gb, hb.mono (Ex.refl G) e2, h0, h1, fun d H3 hd k s => q _ H3 ⟨d, hd, rfl⟩ (fun a o z n => k a o (e2 a o z) n) fun G' hb' => s G' (hb'.mono (Ex.refl G') e2)⟩⟩
theorem eb_take {m : Nat} (hv : σ[i0]? = some (some (.ref b))) (h : Ev te σ G (.int (m : Int))) (h0 : 0 < m) (h1 : m < 2 ^ 30) : EvB K (tCall (spT K) [] E (tCons (tVar i0) (tCons te tNil))) σ b G (PN m) :=
  EvB.imp (EvBI.eb (ebi_take hv h h0 h1)) fun r ⟨v, ⟨d, hd, hv⟩, hr⟩ => ⟨d, hd, by rw [hr, hv]⟩
/-- t and a drawn test -/
theorem etb_and {t u : TT} {c : Bool} {P : Bool → Prop} (h1 : EvT t σ G c) (h2 : c = true → EvTB K u σ b G P) : EvTB K (tAnd t u) σ b G (fun d => (c = false ∧ d = false) ∨ (c = true ∧ P d)) := fun H e gb hb Q q => h1 H e _ fun H1 e1 => by
  cases c with
  | true =>
    show u σ H1 Q
    exact h2 rfl H1 (e.trans e1) gb (hb.mono (Ex.refl G) e1) Q fun d G2 H2 p g hb2 => q d G2 H2 (.inr ⟨rfl, p⟩) ⟨g.g, fun a o z n => g.h a o (e1 a o z) n, g.i, fun a o z y => g.n a o (e1 a o z) y⟩ hb2
  | false =>
    show Q false H1
    exact q false G H1 (.inl ⟨rfl, rfl⟩) ((GrB.refl e).more e1) (hb.mono (Ex.refl G) e1)
/-- xs[a draw], xs a list of ints at a name -/
theorem ebi_ix {l : List Nat} {n j : Nat} {x : V} (hv : σ[j]? = some (some x)) (hx : (rLn K l).p x G) (hb : EvBI K tb σ b G (fun v => ∃ d : Nat, d < n ∧ v = .int (d : Int))) (hn : n ≤ l.length) : EvBI K (tOp (rIxL K) (tVar j) tb) σ b G (fun v => ∃ w ∈ l, v = .int (w : Int)) := fun H e gb hbx Q q =>
  ⟨x, hv, hb H e gb hbx _ fun v H2 ⟨d, hd, hv⟩ k s => by
    subst hv
    obtain ⟨a, vs, rfl, h1, ra⟩ := hx
    have ev := ra_nats_eq ra
    subst ev
    have hdl : d < l.length := by omega
    refine ⟨a, _, (d : Int), .int ((l[d] : Nat) : Int), rfl, rfl, sq_of (k a _ (e _ _ h1) (fun q => by subst q; rw [gb] at h1; cases h1)), atI_nat (by rw [List.getElem?_map, List.getElem?_eq_getElem hdl]; rfl), q _ H2 ⟨l[d], List.getElem_mem hdl, rfl⟩ k s⟩⟩
/-- xs.append(a drawn plain value that may be made of xs), xs a list of our own -/
theorem s_appBI {p : Addr} {ws : List V} {PV : V → Prop} (e : Ex G H) (gb : G b = none) (hbx : Box K G H b) (hp : H p = some (.lst ws)) (gp : G p = none) (pb : p ≠ b) (hv : σ[i]? = some (some (.ref p))) (h : EvBI K te σ b (upd G p (.lst ws)) PV) (hz : ws.length < 50000)
    (k : ∀ v H2, PV v → (∀ a o, H a = some o → a ≠ p → a ≠ b → H2 a = some o) → Box K G H2 b → H2 p = some (.lst (ws ++ [v])) → D.nx σ H2) :
    tDrop (tBM K "list" rAppend (tVar i) (tCons te tNil)) D σ H := ⟨.ref p, hv, Or.inl ⟨rfl, ws, sq_of hp⟩, h H (ex_add e hp) (by rw [upd_ne (Ne.symm pb)]; exact gb) (hbx.mono (Ex.new gp) (Ex.refl H)) _ fun v H2 hP kk s =>
  ⟨p, ws, v, rfl, rfl, kk _ _ hp pb, sz_lt (by omega), k v _ hP (fun a o z n nb => by rw [upd_ne n]; exact kk a o z nb) ((s G hbx).mono' (Ex.refl G) fun o z => by rw [upd_ne (Ne.symm pb)]; exact z) upd_same⟩⟩
/-- xs.reverse() -/
theorem s_rev {p : Addr} {ws : List V} (hp : H p = some (.lst ws)) (hv : Ev ta σ H (.ref p)) (k : ∀ H1, Ex H H1 → D.nx σ (upd H1 p (.lst ws.reverse))) : tDrop (tBM0 K "list" rReverse ta) D σ H := hv H (Ex.refl H) _ fun H1 e1 =>
  ⟨Or.inl ⟨rfl, ws, sq_of (e1 _ _ hp)⟩, p, ws, rfl, rfl, e1 _ _ hp, k H1 e1⟩
/-- a written operand, then a draw -/
theorem eb_opN {rr : R2} {x : V} {n : Nat} (ha : Ev ta σ G x) (hb : EvB K tb σ b G (PN n)) (f : Nat → V) (hs : ∀ d, d < n → ∀ H (Q : VK), Q (f d) H → rr x (.int (d : Int)) H Q) : EvB K (tOp rr ta tb) σ b G (fun r => ∃ d, d < n ∧ r = rV (f d)) := fun H e gb hbx Q q =>
  ha H e _ fun H1 e1 => hb H1 (e.trans e1) gb (hbx.mono (Ex.refl G) e1) _ fun r v G2 H2 p g hb2 hv => by
    obtain ⟨d, hd, rfl⟩ := p
    obtain rfl : v = V.int (d : Int) := hv
    exact hs d hd H2 Q (q (rV (f d)) (f d) G2 H2 ⟨d, hd, rfl⟩ ⟨g.g, fun a o z n => g.h a o (e1 a o z) n, g.i, fun a o z y => g.n a o (e1 a o z) y⟩ hb2 rfl)
/-- a draw, then a written operand -/
theorem eb_opN' {rr : R2} {y : V} {n : Nat} (ha : EvB K ta σ b G (PN n)) (hb : ∀ G2, Ex G G2 → Ev tb σ G2 y) (f : Nat → V) (hs : ∀ d, d < n → ∀ H (Q : VK), Q (f d) H → rr (.int (d : Int)) y H Q) : EvB K (tOp rr ta tb) σ b G (fun r => ∃ d, d < n ∧ r = rV (f d)) := fun H e gb hbx Q q =>
  ha H e gb hbx _ fun r v G2 H2 p g hb2 hv => by
    obtain ⟨d, hd, rfl⟩ := p
    obtain rfl : v = V.int (d : Int) := hv
    refine hb G2 g.g H2 g.i _ fun H3 e3 => ?_
    exact hs d hd H3 Q (q (rV (f d)) (f d) G2 H3 ⟨d, hd, rfl⟩ (g.more e3) (hb2.mono (Ex.refl _) e3) rfl)
theorem et_bN {f : Nat → Bool} {n : Nat} (h : EvB K te σ b G (fun r => ∃ d, d < n ∧ r = rV (.bl (f d)))) : EvTB K (tTest te) σ b G (fun c => ∃ d, d < n ∧ c = f d) := fun H e gb hb Q q =>
  h H e gb hb _ fun r v G2 H2 p g hb2 hv => by
    obtain ⟨d, hd, rfl⟩ := p
    obtain rfl : v = V.bl (f d) := hv
    exact ⟨_, rfl, q _ G2 H2 ⟨d, hd, rfl⟩ g hb2⟩
/-! statements -/
theorem s_setB (e : Ex G H) (gb : G b = none) (hb : Box K G H b) (h : EvB K te σ b G P) (k : ∀ r v G2 H2, P r → GrB b G H G2 H2 → Box K G2 H2 b → r.p v G2 → D.nx (σ.set i (some v)) H2) : tAsg te (gName i) D σ H := h H e gb hb _ k
theorem s_setBN {P : List Rp → Prop} (e : Ex G H) (gb : G b = none) (hb : Box K G H b) (h : EvBN K te σ b G P) (k : ∀ rs p vs G2 H2, P rs → GrB b G H G2 H2 → Box K G2 H2 b → H p = none → G2 p = none → H2 p = some (.lst vs) → RA G2 vs rs → D.nx (σ.set i (some (.ref p))) H2) : tAsg te (gName i) D σ H := h H e gb hb _ k
theorem s_ifB {t : TT} {P : Bool → Prop} (e : Ex G H) (gb : G b = none) (hb : Box K G H b) (h : EvTB K t σ b G P) (h1 : P true → ∀ G2 H2, GrB b G H G2 H2 → Box K G2 H2 b → tu D σ H2) (h2 : P false → ∀ G2 H2, GrB b G H G2 H2 → Box K G2 H2 b → tw D σ H2) : tIfS t tu tw D σ H := h H e gb hb _ fun c G2 H2 p g hb2 => by
  cases c with
  | true =>
    show tu D σ H2
    exact h1 p G2 H2 g hb2
  | false =>
    show tw D σ H2
    exact h2 p G2 H2 g hb2
/-- xs.append(a drawn thing), xs a list of our own -/
theorem s_appB {p : Addr} {ws : List V} {rs : List Rp} (e : Ex G H) (gb : G b = none) (hbx : Box K G H b) (hp : H p = some (.lst ws)) (gp : G p = none) (pb : p ≠ b) (ra : RA G ws rs) (hv : Ev ta σ G (.ref p)) (h : EvB K te σ b G P) (hz : rs.length < 50000)
    (k : ∀ r ws' G2 H2, P r → Ex G G2 → (∀ a o, H a = some o → a ≠ p → a ≠ b → H2 a = some o) → Ex G2 H2 → (∀ a o, H a = some o → G a = none → G2 a = none) → Box K G2 H2 b → H2 p = some (.lst ws') → RA G2 ws' (rs ++ [r]) → D.nx σ H2) :
    tDrop (tBM K "list" rAppend ta (tCons te tNil)) D σ H := hv H e _ fun H1 e1 => ⟨Or.inl ⟨rfl, ws, sq_of (e1 p _ hp)⟩, h H1 (e.trans e1) gb (hbx.mono (Ex.refl G) e1) _ fun r v G2 H2 hP g hb2 hv2 => by
  have h2 := g.h p _ (e1 p _ hp) pb
  have g2 : G2 p = none := g.n p _ (e1 p _ hp) gp
  refine ⟨p, ws, v, rfl, rfl, h2, sz_lt (by rw [ra.len]; omega), k r (ws ++ [v]) G2 _ hP g.g (fun a o z n nb => ?_) (Ex.mut g.i g2) (fun a o z n => g.n a o (e1 a o z) n) ?_ upd_same ((ra.mono g.g).snoc hv2)⟩
  · rw [upd_ne n]
    exact g.h a o (e1 a o z) nb
  · exact hb2.mono' (Ex.refl _) fun o z => by rw [upd_ne (Ne.symm pb)]; exact z⟩
end
section
variable {K : PySem.W.Frag} {σ : L2.St} {G H : Hp} {te ta tb : TE} {tl th : TO}
theorem RA.drop {H : Hp} : ∀ {vs : List V} {rs : List Rp} (n : Nat), RA H vs rs → RA H (vs.drop n) (rs.drop n)
  | _, _, 0, h => h
  | _, _, _ + 1, .nil => .nil
  | _, _, n + 1, .cons _ t => RA.drop n t
theorem RA.take {H : Hp} : ∀ {vs : List V} {rs : List Rp} (n : Nat), RA H vs rs → RA H (vs.take n) (rs.take n)
  | _, _, 0, _ => .nil
  | _, _, _ + 1, .nil => .nil
  | _, _, n + 1, .cons h t => .cons h (RA.take n t)
def cutR {α : Type} (xs : List α) (lo hi : Option Int) : List α := (xs.drop (HT.sIx xs.length 0 lo)).take (HT.sIx xs.length xs.length hi - HT.sIx xs.length 0 lo)
theorem cutR_map {α β : Type} (f : α → β) (l : List α) (lo hi : Option Int) : cutR (l.map f) lo hi = (cutR l lo hi).map f := by
  unfold cutR
  rw [List.length_map, List.map_take, List.map_drop]
/-- xs[lo:hi] -/
theorem en_slL {rs : List Rp} {lo hi : Option Int} (h : EvD te σ G (rLs K rs)) (h1 : ∀ G', Ex G G' → EvO tl σ G' lo) (h2 : ∀ G', Ex G G' → EvO th σ G' hi) : EvN (tSl (rSlL K) te tl th) σ G (cutR rs lo hi) := fun H e Q q =>
  h H e _ fun v G2 H2 g hv => by
    obtain ⟨a, vs, rfl, s1, ra⟩ := hv
    refine h1 G2 g.g H2 g.i _ fun H3 e3 => h2 G2 g.g H3 (g.i.trans e3) _ fun H4 e4 => ?_
    refine ⟨a, vs, rfl, ex_l ((g.i.trans e3).trans e4) s1, fun p hp => ?_⟩
    have gg := (g.more e3).more e4
    refine q p (cutV vs lo hi) G2 _ (gg.more (Ex.new hp)) (fresh_back gg.h hp) (fresh_back gg.i hp) upd_same ?_
    unfold cutV cutR
    rw [ra.len]
    exact (ra.drop _).take _
/-! ### ints that are not known: a list of ints -/
theorem ra_ints_eq {H : Hp} : ∀ {l : List Int} {vs : List V}, RA H vs (l.map rI) → vs = l.map V.int
  | [], _, .nil => rfl
  | n :: r, _, .cons h t => by
    have e1 := ra_ints_eq (l := r) t
    have e2 : _ = V.int n := h
    rw [e1, e2]; rfl
theorem ra_ints {H : Hp} : ∀ {l : List Int}, RA H (l.map V.int) (l.map rI)
  | [] => .nil
  | _ :: r => .cons rfl (ra_ints (l := r))
def spBoxMk (K : PySem.W.Frag) : Sp := fun vs H Q _ => ∃ (a : Addr) (ns : List Int), vs = [.ref a] ∧ SqL K H a (ns.map V.int) ∧ ns.length ≤ 63 ∧ ∀ b G2 H2, Ex H G2 → Ex G2 H2 → H b = none → G2 b = none → Box K G2 H2 b → Q (.ref b) H2
theorem ev_abs {i : Int} (h : Ev te σ G (.int i)) : Ev (tCB (fun xs H Q => ∃ i, xs = [.int i] ∧ Q (.int (if i < 0 then -i else i)) H) (tCons te tNil)) σ G (.int (if i < 0 then -i else i)) := fun H e Q q => h H e _ fun H2 e2 => ⟨i, rfl, q H2 e2⟩
theorem ev_int {i : Int} (h : Ev te σ G (.int i)) : Ev (tCB (fun xs H Q => (∃ i, xs = [.int i] ∧ Q (.int i) H) ∨ ∃ k, xs = [.bl k] ∧ Q (.int (if k then 1 else 0)) H) (tCons te tNil)) σ G (.int i) := fun H e Q q => h H e _ fun H2 e2 => .inl ⟨i, rfl, q H2 e2⟩
end
section
variable {K : PySem.W.Frag} {σ : L2.St} {b p : Addr} {G H : Hp} {te ta tb : TE} {D : Ends}
theorem en_listR {n : Nat} (h : Ev te σ G (.int (n : Int))) (hn : n ≤ 1000000) : EvN (tLstRg (tRg1 te)) σ G ((List.range n).map nI) := fun H e Q q => h H e _ fun H2 e2 =>
  ⟨(n : Int), rfl, RgOk.of_le (by omega) (by omega) (by omega) (by omega), fun l hl => by
    have eq : rgV 0 (n : Int) = (List.range n).map fun (i : Nat) => V.int (i : Int) := by
      unfold rgV
      rw [Int.sub_zero, Int.toNat_natCast]
      exact List.map_congr_left fun a _ => by rw [Int.zero_add]
    refine q l _ G _ (((Gr.refl e).more e2).more (Ex.new hl)) (fresh_back e2 hl) (fresh_back (e.trans e2) hl) upd_same ?_
    rw [eq]
    exact ra_nats⟩
/-- xs[i] = a new list of ints that is made of what stands, xs itself among it -/
theorem s_setNI {ws : List V} {rs : List Rp} {l : List Nat} {j : Nat} (e : Ex G H) (hp : H p = some (.lst ws)) (gp : G p = none) (ra : RA G ws rs) (h : EvN te σ (upd G p (.lst ws)) (l.map nI)) (ho : Ev ta σ G (.ref p)) (hi : Ev tb σ G (.int (j : Int))) (hj : j < rs.length)
    (k : ∀ ws' G3 H3, Ex G G3 → (∀ a o, H a = some o → a ≠ p → H3 a = some o) → Ex G3 H3 → (∀ a o, H a = some o → G a = none → G3 a = none) → G3 p = none → H3 p = some (.lst ws') → RA G3 ws' (rs.set j (rLn K l)) → D.nx σ H3) :
    tAsg te (gSub ta tb rSetL) D σ H := h H (ex_add e hp) _ fun q vs G2 H2 g hq gq h2 ra2 => by
  have ev := ra_nats_eq ra2
  subst ev
  have pq : p ≠ q := ne_of_none hp hq
  refine ho H2 (e.trans g.h) _ fun H3 e3 => hi H3 ((e.trans g.h).trans e3) _ fun H4 e4 => ?_
  have e34 := e3.trans e4
  have gq0 : G q = none := fresh_back e hq
  refine ⟨p, ws, (j : Int), j, rfl, rfl, e34 _ _ (g.h _ _ hp), ixN_nat (by rw [ra.len]; exact hj), ?_⟩
  refine k (ws.set j (.ref q)) (upd G q (.lst (l.map fun (n : Nat) => V.int (n : Int)))) _ (Ex.new gq0) (fun a o z n => by rw [upd_ne n]; exact e34 _ _ (g.h _ _ z)) ?_ (fun a o z y => by rw [upd_ne (ne_of_none z hq)]; exact y) (by rw [upd_ne pq]; exact gp) upd_same ?_
  · refine Ex.mut (ex_add ((e.trans g.h).trans e34) (e34 _ _ h2)) (by rw [upd_ne pq]; exact gp)
  · exact RA.set (r := rLn K l) ⟨q, _, rfl, upd_same, ra_nats⟩ j (ra.mono (Ex.new gq0))
/-- [a draw] -/
theorem ebn_lst1 {n : Nat} (h : EvB K te σ b G (PN n)) : EvBN K (tLst (tCons te tNil)) σ b G (fun rs => ∃ d, d < n ∧ rs = [nI d]) := fun H e gb hb Q q =>
  h H e gb hb _ fun r v G2 H2 p g hb2 hv => ⟨by show 1 ≤ sizeLine; decide, fun l hl => by
    obtain ⟨d, hd, rfl⟩ := p
    obtain rfl : v = V.int (d : Int) := hv
    have hlb : l ≠ b := fun z => by
      subst z
      obtain ⟨o, z2⟩ := hb2.at_
      rw [z2] at hl; cases hl
    have hlH : H l = none := by
      cases z : H l with
      | none => rfl
      | some o => rw [g.h l o z hlb] at hl; cases hl
    exact q [nI d] l [.int (d : Int)] G2 _ ⟨d, hd, rfl⟩ (g.more (Ex.new hl)) (hb2.mono (Ex.refl _) (Ex.new hl)) hlH (fresh_back g.i hl) upd_same (.cons rfl .nil)⟩
end
theorem bits_pow (d : Nat) : bitsN (2 ^ d) = [d] := by
  have h : (2 : Nat) ^ d < 2 ^ (d + 1) := Nat.pow_lt_pow_right (by decide) (by omega)
  rw [← bits_eq h, List.range_succ, List.filter_append]
  have h1 : (List.range d).filter (2 ^ d).testBit = [] := List.filter_eq_nil_iff.mpr fun a ha => by
    have := List.mem_range.mp ha
    rw [Nat.testBit_two_pow]
    simp
    omega
  rw [h1]
  simp [Nat.testBit_two_pow]
theorem pow_list {n : Nat} (h : n ≤ 6) : ([nI 1, nI 2, nI 4, nI 8, nI 16, nI 32, nI 64] : List Rp)[n]? = some (nI (2 ^ n)) := by
  have : n = 0 ∨ n = 1 ∨ n = 2 ∨ n = 3 ∨ n = 4 ∨ n = 5 ∨ n = 6 := by omega
  rcases this with rfl | rfl | rfl | rfl | rfl | rfl | rfl <;> rfl
theorem pow_list6 {n : Nat} (h : n ≤ 5) : ([nI 1, nI 2, nI 4, nI 8, nI 16, nI 32] : List Rp)[n]? = some (nI (2 ^ n)) := by
  have : n = 0 ∨ n = 1 ∨ n = 2 ∨ n = 3 ∨ n = 4 ∨ n = 5 := by omega
  rcases this with rfl | rfl | rfl | rfl | rfl | rfl <;> rfl
theorem test_div (m w : Nat) : decide (((m : Int) / ((2 ^ w : Nat) : Int)) % 2 = 1) = m.testBit w := by
  rw [← Int.natCast_ediv, Bool.eq_iff_iff, decide_eq_true_iff, ← shr_test, Nat.testBit_zero, decide_eq_true_iff]
  omega
/-- behind an append to a list p of our own -/
theorem GrB.app {b p : Addr} {G0 H0 G H G3 H3 : Hp} (g : GrB b G0 H0 G H) (hp0 : H0 p = none) (gb0 : G0 b = none) (hb0 : ∃ o, H0 b = some o) (hb : ∃ o, H b = some o) (e3 : Ex G G3) (k3 : ∀ a o, H a = some o → a ≠ p → a ≠ b → H3 a = some o) (i3 : Ex G3 H3) (n3 : ∀ a o, H a = some o → G a = none → G3 a = none) : GrB b G0 H0 G3 H3 where
  g := g.g.trans e3
  h := fun a o z nb => k3 a o (g.h a o z nb) (ne_of_none z hp0) nb
  i := i3
  n := fun a o z y => by
    have y2 := g.n a o z y
    by_cases q : a = b
    · subst q
      obtain ⟨o2, z2⟩ := hb
      exact n3 a o2 z2 y2
    · exact n3 a o (g.h a o z q) y2
theorem GrB.fresh {b p : Addr} {G H G2 H2 : Hp} (g : GrB b G H G2 H2) (hb2 : ∃ o, H2 b = some o) (hp : H2 p = none) : H p = none ∧ p ≠ b := by
  have hpb : p ≠ b := fun z => by
    subst z
    obtain ⟨o, z2⟩ := hb2
    rw [z2] at hp; cases hp
  refine ⟨?_, hpb⟩
  cases z : H p with
  | none => rfl
  | some o => rw [g.h p o z hpb] at hp; cases hp
section
variable {K : PySem.W.Frag} {σ : L2.St} {G H : Hp} {te ta tb tf : TE} {C : Addr} {m : List Nat} {sp : Sp} {E : XK}
/-- xs + ys -/
theorem en_cat {rs ss : List Rp} (ha : EvD ta σ G (rL K rs)) (hb : EvD tb σ G (rL K ss)) (hz : rs.length + ss.length ≤ 100000) : EvN (tOp rCat ta tb) σ G (rs ++ ss) := en_op ha hb fun x y G2 H e1 e2 hx hy Q q => by
  obtain ⟨a, vs, rfl, h1, h2⟩ := hx
  obtain ⟨a', vs', rfl, h1', h2'⟩ := hy
  refine ⟨a, a', vs, vs', rfl, rfl, e2 _ _ h1, e2 _ _ h1', sz_of (by rw [h2.len, h2'.len]; exact hz), fun p hp => ?_⟩
  exact q p _ G2 _ ((Gr.refl e2).more (Ex.new hp)) hp (fresh_back e2 hp) upd_same (h2.append h2')
/-- table(words) -/
theorem en_callT {ss rs : List Rp} {ta : TA} (hf : EvD tf σ G (rTab K C m)) (ha : EvAD ta σ G ss) (hs : ∀ x vs G2, Ex G G2 → (rTab K C m).p x G2 → RA G2 vs ss → SpN sp (x :: vs) G2 rs) : EvN (tCallOwn C sp E tf ta) σ G rs := fun H e Q q =>
  hf H e _ fun x G2 H2 g hx => by
    obtain ⟨a, dx, t, c, rfl, h2, h3⟩ := id hx
    refine ⟨a, rfl, (ha.mono g.g) H2 g.i _ fun vs G3 H3 g3 ra => ⟨⟨dx, _, g3.h _ _ (g.i _ _ h2)⟩, hs _ vs G3 (g.g.trans g3.g) ((rTab K C m).mono g3.g hx) ra H3 g3.i Q (fun p ws G4 H4 g4 hp gp h4 ra4 => q p ws G4 H4 ((g.trans g3).trans g4) (fresh_back (g.h.trans g3.h) hp) gp h4 ra4) E⟩⟩
end
section
variable {K : PySem.W.Frag} {σ : L2.St} {b : Addr} {G H : Hp} {te ta tb : TE} {D : Ends} {tu tw : TS}
/-- a test by draws alone -/
def EvTBI (K : PySem.W.Frag) (tt : TT) (σ : L2.St) (b : Addr) (G : Hp) (P : Bool → Prop) : Prop := ∀ H, Ex G H → G b = none → Box K G H b → ∀ Q : Bool → Hp → Prop, (∀ c H2, P c → (∀ a o, H a = some o → a ≠ b → H2 a = some o) → (∀ G', Box K G' H b → Box K G' H2 b) → Q c H2) → tt σ H Q
theorem etbi_eq {n : Nat} {y : Int} (ha : EvBI K ta σ b G (fun v => ∃ d : Nat, d < n ∧ v = .int (d : Int))) : EvTBI K (tTest (tOp rEq ta (tC (.int y)))) σ b G (fun c => ∃ d : Nat, d < n ∧ c = decide (V.int (d : Int) = V.int y)) := fun H e gb hb Q q =>
  ha H e gb hb _ fun v H2 ⟨d, hd, hv⟩ k s => by
    subst hv
    exact ⟨rfl, _, rfl, q _ H2 ⟨d, hd, rfl⟩ k s⟩
theorem etbi_and {t u : TT} {c : Bool} {P : Bool → Prop} (h1 : EvT t σ G c) (h2 : c = true → EvTBI K u σ b G P) : EvTBI K (tAnd t u) σ b G (fun d => (c = false ∧ d = false) ∨ (c = true ∧ P d)) := fun H e gb hb Q q => h1 H e _ fun H1 e1 => by
  cases c with
  | true =>
    show u σ H1 Q
    exact h2 rfl H1 (e.trans e1) gb (hb.mono (Ex.refl G) e1) Q fun d H2 p k s => q d H2 (.inr ⟨rfl, p⟩) (fun a o z n => k a o (e1 a o z) n) fun G' hb' => s G' (hb'.mono (Ex.refl G') e1)
  | false =>
    show Q false H1
    exact q false H1 (.inl ⟨rfl, rfl⟩) (fun a o z _ => e1 a o z) fun G' hb' => hb'.mono (Ex.refl G') e1
theorem s_ifBI {t : TT} {P : Bool → Prop} (e : Ex G H) (gb : G b = none) (hb : Box K G H b) (h : EvTBI K t σ b G P) (h1 : P true → ∀ H2, (∀ a o, H a = some o → a ≠ b → H2 a = some o) → (∀ G', Box K G' H b → Box K G' H2 b) → tu D σ H2) (h2 : P false → ∀ H2, (∀ a o, H a = some o → a ≠ b → H2 a = some o) → (∀ G', Box K G' H b → Box K G' H2 b) → tw D σ H2) : tIfS t tu tw D σ H := h H e gb hb _ fun c H2 p k s => by
  cases c with
  | true =>
    show tu D σ H2
    exact h1 p H2 k s
  | false =>
    show tw D σ H2
    exact h2 p H2 k s
theorem GrB.same {b : Addr} {G0 H0 G H H2 : Hp} (g : GrB b G0 H0 G H) (gb : G b = none) (k : ∀ a o, H a = some o → a ≠ b → H2 a = some o) : GrB b G0 H0 G H2 := ⟨g.g, fun a o z n => k a o (g.h a o z n) n, fun a o z => k a o (g.i a o z) (fun q => by subst q; rw [gb] at z; cases z), g.n⟩
end
section
variable {K : PySem.W.Frag} {σ : L2.St} {b : Addr} {G H : Hp} {te : TE} {E : XK} {i0 : Nat}
/-- f(box, a drawn thing) -/
theorem ebn_callB {P1 : Rp → Prop} {P : List Rp → Prop} {R : List V → Hp → (List Rp → Prop) → Prop} (hv : σ[i0]? = some (some (.ref b))) (h : EvB K te σ b G P1) (hs : ∀ r v G2, P1 r → Ex G G2 → r.p v G2 → ∃ P', R [v] G2 P' ∧ ∀ rs, P' rs → P rs) : EvBN K (tCall (spBN K R) [] E (tCons (tVar i0) (tCons te tNil))) σ b G P := fun H e gb hb Q q =>
  ⟨.ref b, hv, h H e gb hb _ fun r v G2 H2 p g hb2 hr => by
    show spBN K R ([V.ref b, v] ++ []) H2 Q E
    rw [List.append_nil]
    obtain ⟨P', hR, hP⟩ := hs r v G2 p g.g hr
    have gb2 : G2 b = none := g.out gb hb.at_
    exact ⟨G2, b, [v], P', rfl, g.i, gb2, hb2, hR, fun rs' p' vs G3 H3 p3 g3 hb3 hp gp h3 ra => q rs' p' vs G3 H3 (hP rs' p3) (g.trans gb hb.at_ g3 hb2.at_) hb3 (g.fresh hb2.at_ hp).1 gp h3 ra⟩⟩
end
end Mu

theorem L2.Room.u65 {k : Nat} {A : PySem.Around} (r : L2.Room k A) : A.units + 65 < PySem.cLine := by have := r.un; omega
namespace Mu
open PySem PySem.Spec PyProof.Rows L2 Evl
section
variable {X : Cx} (K : PySem.W.Frag)
theorem op_inDK (hu : X.A.units + 65 < cLine) (hK : X.K = K := by rfl) : OpR X (compareOp .In) (rInD K) := hK ▸ op_inD hu
theorem op_notInDK (hu : X.A.units + 65 < cLine) (hK : X.K = K := by rfl) : OpR X (compareOp .NotIn) (rNotInD K) := hK ▸ op_notInD hu
end
section
variable {K : PySem.W.Frag} {σ : L2.St} {G H : Hp} {ta tb : TE}
theorem any_p (p : Nat × Nat) (l : List (Nat × Nat)) : ((l.map dP).any fun z => PyData.eqv z (dP p)) = decide (p ∈ l) := by
  rw [List.any_map, Bool.eq_iff_iff, List.any_eq_true, decide_eq_true_iff]
  constructor
  · rintro ⟨x, hx, h⟩
    have h2 : PyData.eqv (dP x) (dP p) = true := h
    rw [eqv_p] at h2
    rw [← of_decide_eq_true h2]; exact hx
  · intro h
    exact ⟨p, h, by show PyData.eqv (dP p) (dP p) = true; rw [eqv_p]; simp⟩
theorem ev_notInP {p : Nat × Nat} {l : List (Nat × Nat)} (ha : EvD ta σ G (rP K p)) (hb : EvD tb σ G (rL K (l.map (rP K)))) : Ev (tOp (rNotInD K) ta tb) σ G (.bl (!decide (p ∈ l))) :=
  ev_op2 ha hb fun x y H hx hy Q q => ⟨dP p, l.map dP, asd_p p x H hx, asd_list asd_p l y H hy, (sh_p p).ok (by decide), (sh_list sh_p l).ok (by decide), by rw [any_p]; exact q⟩
theorem ev_inP {p : Nat × Nat} {l : List (Nat × Nat)} (ha : EvD ta σ G (rP K p)) (hb : EvD tb σ G (rL K (l.map (rP K)))) : Ev (tOp (rInD K) ta tb) σ G (.bl (decide (p ∈ l))) :=
  ev_op2 ha hb fun x y H hx hy Q q => ⟨dP p, l.map dP, asd_p p x H hx, asd_list asd_p l y H hy, (sh_p p).ok (by decide), (sh_list sh_p l).ok (by decide), by rw [any_p]; exact q⟩
theorem et_notInP {p : Nat × Nat} {l : List (Nat × Nat)} (ha : EvD ta σ G (rP K p)) (hb : EvD tb σ G (rL K (l.map (rP K)))) : EvT (tTest (tOp (rNotInD K) ta tb)) σ G (!decide (p ∈ l)) := et_test (ev_notInP ha hb)
theorem et_inP {p : Nat × Nat} {l : List (Nat × Nat)} (ha : EvD ta σ G (rP K p)) (hb : EvD tb σ G (rL K (l.map (rP K)))) : EvT (tTest (tOp (rInD K) ta tb)) σ G (decide (p ∈ l)) := et_test (ev_inP ha hb)
theorem ev_isB {a b : Bool} (ha : Ev ta σ G (.bl a)) (hb : Ev tb σ G (.bl b)) : Ev (tOp rIsB ta tb) σ G (.bl (decide (a = b))) :=
  ev_op2 (Ev.d ha) (Ev.d hb) fun x y H hx hy Q q => ⟨a, b, hx, hy, q⟩
theorem ev_isNB {a b : Bool} (ha : Ev ta σ G (.bl a)) (hb : Ev tb σ G (.bl b)) : Ev (tOp rNotB ta tb) σ G (.bl (!decide (a = b))) :=
  ev_op2 (Ev.d ha) (Ev.d hb) fun x y H hx hy Q q => ⟨a, b, hx, hy, q⟩
theorem Gr.outB {b : Addr} {G2 H2 : Hp} (g : Gr G H G2 H2) (gb : G b = none) (hb : Box K G H b) : G2 b = none := by
  obtain ⟨o, z⟩ := hb.at_
  exact g.n b o z gb
theorem Ev.is {x y : V} {te : TE} (h : Ev te σ G x) (e : x = y) : Ev te σ G y := e ▸ h
end
theorem s_box {K : PySem.W.Frag} {σ : L2.St} {H : Hp} {D : Ends} {E : XK} {a : Addr} {ns : List Int} {i i0 : Nat} (hv : σ[i0]? = some (some (.ref a))) (hS : SqL K H a (ns.map V.int)) (hl : ns.length ≤ 63) (k : ∀ b G2 H2, Ex H G2 → Ex G2 H2 → H b = none → G2 b = none → Box K G2 H2 b → D.nx (σ.set i (some (.ref b))) H2) : tAsg (tCall (spBoxMk K) [] E (tCons (tVar i0) tNil)) (gName i) D σ H :=
  ⟨.ref a, hv, a, ns, rfl, hS, hl, k⟩
/-! ### a comprehension within a comprehension -/
theorem look_re {env : Env} : ∀ {names : List (Str × NameKind)} {x : Str} {k : NameKind}, names.lookup x = some k →
    (names.map fun (n, k) => if (k == NameKind.free && env.scope.kind == .function && env.kindOf n == some .cell) then (n, NameKind.cell) else (n, k)).lookup x = some k ∨ (k = .free ∧ (names.map fun (n, k) => if (k == NameKind.free && env.scope.kind == .function && env.kindOf n == some .cell) then (n, NameKind.cell) else (n, k)).lookup x = some .cell)
  | [], _, _, h => by simp at h
  | (n, k) :: r, x, k', h => by
    have ih := @look_re env r x k'
    show List.lookup x ((if (k == NameKind.free && env.scope.kind == .function && env.kindOf n == some .cell) = true then (n, NameKind.cell) else (n, k)) :: _) = _ ∨ (_ ∧ List.lookup x ((if (k == NameKind.free && env.scope.kind == .function && env.kindOf n == some .cell) = true then (n, NameKind.cell) else (n, k)) :: _) = _)
    by_cases hc : (k == NameKind.free && env.scope.kind == .function && env.kindOf n == some .cell) = true
    · rw [if_pos hc]
      cases hx : x == n with
      | true =>
        simp only [List.lookup_cons, hx] at h
        have hk : k = .free := by
          simp only [Bool.and_eq_true] at hc
          exact eq_of_beq hc.1.1
        refine .inr ⟨by rw [← Option.some.inj h, hk], by simp [List.lookup_cons, hx]⟩
      | false =>
        simp only [List.lookup_cons, hx] at h ⊢
        exact ih h
    · rw [if_neg hc]
      cases hx : x == n with
      | true =>
        simp only [List.lookup_cons, hx] at h ⊢
        exact .inl h
      | false =>
        simp only [List.lookup_cons, hx] at h ⊢
        exact ih h
theorem vis_re {sc : Scope} {env : Env} {x : Str} (h : Vis sc x) : Vis (relabel sc env) x := by
  rcases h with h | h | h
  · rcases look_re (env := env) h with q | ⟨q, _⟩
    · exact .inl q
    · cases q
  · rcases look_re (env := env) h with q | ⟨q, _⟩
    · exact .inr (.inl q)
    · cases q
  · rcases look_re (env := env) h with q | ⟨_, q⟩
    · exact .inr (.inr q)
    · exact .inr (.inl q)
theorem blkOk_re {N : List Str} {sc scope : Scope} {own : List (Str × Nat)} {env : Env} (h : BlkOk N sc scope own) : BlkOk N (relabel sc env) scope own :=
  ⟨h.kind, h.uniq, h.ix, fun y hy e => by
    rcases h.free y hy e with q | q
    · rcases look_re (env := env) q with q | ⟨q, _⟩
      · exact .inl q
      · cases q
    · rcases look_re (env := env) q with q | ⟨_, q⟩
      · exact .inr q
      · exact .inl q, h.own⟩
section
variable {X : Cx}
/-- a name within a block -/
theorem pvB (i : Nat) {sc : Scope} {env : Env} {x : Str} {pos : Pos} (hN : X.N[i]? = some x := by rfl) (hv : Vis sc x := by first | exact Or.inl rfl | exact Or.inr (Or.inl rfl) | exact Or.inr (Or.inr rfl)) (hd : (x == ("__debug__" : Str)) = false := by decide)
    (hcd : (x == ("__classdict__" : Str)) = false := by decide) (hs : X.env.scope = relabel sc env := by rfl) : PE X (.Name x pos) (tVar i) := pe_var hN (hs ▸ vis_re hv) hd hcd
end
/-! ### masks -/
theorem bits_acc (f : Nat → Bool) (n : Nat) : bitsN (accTo f n) = (List.range n).filter f := by
  rw [← bits_eq (accTo_lt f n)]
  refine List.filter_congr fun a ha => ?_
  rw [accTo_bit, decide_eq_true (List.mem_range.mp ha)]; rfl
def insideN (f w : List Nat) : Bool := (List.range f.length).all fun i => subN (f.getD i 0) (w.getD i 0)
theorem insideN_iff {n : Nat} {f w : List Nat} (wf : Wf n f) : insideN f w = true ↔ ∀ a b, bitOf f a b = true → bitOf w a b = true := by
  unfold insideN
  rw [List.all_eq_true]
  constructor
  · intro h a b hb
    have ha := (wf.bit hb).1
    exact (subN_iff _ _).mp (h a (List.mem_range.mpr (by rw [wf.len]; exact ha))) b hb
  · intro h a _
    exact (subN_iff _ _).mpr fun b hb => h a b hb
theorem inside_behind {n : Nat} {F M W : List Nat} (wf : Wf n F) (wm : Wf n M) (ww : Wf n W) : insideN (prodN F M) W = insideN M (behindN F W) := by
  rw [Bool.eq_iff_iff, insideN_iff (prodN_wf wf wm), insideN_iff wm]
  constructor
  · intro h mid c hb
    obtain ⟨hm, hc⟩ := wm.bit hb
    exact (behindN_bit wf hm).mpr ⟨hc, fun j hj q => h j c ((prodN_bit wf wm hj).mpr ⟨mid, hm, q, hb⟩)⟩
  · intro h a c hb
    have ha := ((prodN_wf wf wm).bit hb).1
    obtain ⟨b, hb', q1, q2⟩ := (prodN_bit wf wm ha).mp hb
    exact ((behindN_bit wf hb').mp (h b c q2)).2 a ha q1
theorem inside_ahead {n : Nat} {F M W : List Nat} (wf : Wf n F) (wm : Wf n M) (ww : Wf n W) : insideN (prodN F M) W = insideN F (aheadN W M) := by
  rw [Bool.eq_iff_iff, insideN_iff (prodN_wf wf wm), insideN_iff wf]
  constructor
  · intro h a b hb
    obtain ⟨ha, hb'⟩ := wf.bit hb
    exact (aheadN_bit ww ha).mpr ⟨hb', fun c q => h a c ((prodN_bit wf wm ha).mpr ⟨b, hb', hb, q⟩)⟩
  · intro h a c hb
    have ha := ((prodN_wf wf wm).bit hb).1
    obtain ⟨b, hb', q1, q2⟩ := (prodN_bit wf wm ha).mp hb
    exact ((aheadN_bit ww ha).mp (h a b q1)).2 c q2
theorem inside_self {n : Nat} {F : List Nat} (wf : Wf n F) : insideN F F = true := (insideN_iff wf).mpr fun _ _ h => h
theorem mem_pairs {m : List Nat} {p : Nat × Nat} : p ∈ pairsN m ↔ p.1 < m.length ∧ bitOf m p.1 p.2 = true := by
  unfold pairsN
  rw [List.mem_flatMap]
  constructor
  · rintro ⟨a, ha, h⟩
    obtain ⟨b, hb, rfl⟩ := List.mem_map.mp h
    exact ⟨List.mem_range.mp ha, mem_bits.mp hb⟩
  · rintro ⟨h1, h2⟩
    exact ⟨p.1, List.mem_range.mpr h1, List.mem_map.mpr ⟨p.2, mem_bits.mpr h2, rfl⟩⟩
theorem due_inside {n : Nat} {J W : List Nat} (wj : Wf n J) (ww : Wf n W) : decide (((pairsN J).filter fun p => !decide (p ∈ pairsN W)).length = 0) = insideN J W := by
  rw [Bool.eq_iff_iff, decide_eq_true_iff, insideN_iff wj]
  constructor
  · intro h a b hb
    have h1 := List.filter_eq_nil_iff.mp (List.eq_nil_of_length_eq_zero h) (a, b) (mem_pairs.mpr ⟨by rw [wj.len]; exact (wj.bit hb).1, hb⟩)
    by_cases q : (a, b) ∈ pairsN W
    · exact (mem_pairs.mp q).2
    · exact absurd (by rw [decide_eq_false q]; rfl) h1
  · intro h
    rw [List.filter_eq_nil_iff.mpr fun p hp => ?_]
    · rfl
    · obtain ⟨h1, h2⟩ := mem_pairs.mp hp
      rw [decide_eq_true (mem_pairs.mpr ⟨by rw [ww.len, ← wj.len]; exact h1, h p.1 p.2 h2⟩)]
      simp
def pairsTo (m : List Nat) (i : Nat) : List (Nat × Nat) := (List.range i).flatMap fun a => (bitsN (m.getD a 0)).map fun b => (a, b)
theorem pairsTo_succ (m : List Nat) (i : Nat) : pairsTo m (i + 1) = pairsTo m i ++ (bitsN (m.getD i 0)).map fun b => (i, b) := by
  unfold pairsTo
  rw [List.range_succ, List.flatMap_append]
  simp
theorem pairsTo_len {m : List Nat} {n : Nat} (h : ∀ a, (m.getD a 0) < 2 ^ n) (i : Nat) : (pairsTo m i).length ≤ i * n := by
  induction i with
  | zero => simp [pairsTo]
  | succ i ih =>
    rw [pairsTo_succ, List.length_append, List.length_map, Nat.succ_mul]
    have := bits_len (h i)
    omega
theorem set_wf {n : Nat} {m : List Nat} (h : Wf n m) {x : Nat} (hx : x < 2 ^ n) (i : Nat) : Wf n (m.set i x) := ⟨by rw [List.length_set]; exact h.len, fun y hy => by
  rcases List.mem_or_eq_of_mem_set hy with q | q
  · exact h.lt y q
  · rw [q]; exact hx⟩
theorem prodN_take {F M : List Nat} {i fm : Nat} (h : F[i]? = some fm) : prodN (F.take (i + 1)) M = prodN (F.take i) M ++ [imageN M fm] := by
  unfold prodN
  rw [List.take_add_one, h, List.map_append]; rfl
theorem rows_tab (n : Nat) (c : Nat → Nat → Bool) : ∃ M, Wf n M ∧ M.map bitsN = (List.range n).map fun a => (List.range n).filter (c a) := ⟨tabOf n c, tabOf_wf n c, tabOf_bits⟩
end Mu

namespace Mu
open PySem PySem.Spec PyProof.Rows L2 Evl
/-! ### the slots by what they stand for -/
abbrev Ctx := List (Option Rp)
def Sl (G : Hp) (o : Option V) (r : Option Rp) : Prop := ∀ q, r = some q → ∃ v, o = some v ∧ q.p v G
abbrev En (σ : L2.St) (G : Hp) (Γ : Ctx) : Prop := Paired (fun o r => Sl G o r) σ Γ
section
variable {σ : L2.St} {G G' : Hp} {Γ Γ' : Ctx} {r : Rp} {v : V} {i : Nat}
theorem Sl.mono (e : Ex G G') {o : Option V} {q : Option Rp} (h : Sl G o q) : Sl G' o q := fun x hx => by
  obtain ⟨v, h1, h2⟩ := h x hx
  exact ⟨v, h1, x.mono e h2⟩
theorem En.mono (e : Ex G G') (h : En σ G Γ) : En σ G' Γ := Paired.mono (fun _ _ z => Sl.mono e z) h
theorem En.get : ∀ {σ : L2.St} {Γ : Ctx} {i : Nat}, En σ G Γ → Γ[i]? = some (some r) → ∃ v, σ[i]? = some (some v) ∧ r.p v G
  | _, _, _, .nil, h => by simp at h
  | _, _, 0, .cons h _, e => by
    simp at e
    obtain ⟨v, h1, h2⟩ := h r e
    exact ⟨v, by simp [h1], h2⟩
  | _, _, i + 1, .cons _ t, e => by
    obtain ⟨v, h1, h2⟩ := En.get (i := i) t (by simpa using e)
    exact ⟨v, by simpa using h1, h2⟩
theorem En.set (q : r.p v G) : ∀ {σ : L2.St} {Γ : Ctx} (i : Nat), En σ G Γ → En (σ.set i (some v)) G (Γ.set i (some r))
  | _, _, _, .nil => .nil
  | _, _, 0, .cons _ t => .cons (fun x hx => ⟨v, rfl, by cases hx; exact q⟩) t
  | _, _, i + 1, .cons h t => .cons h (En.set q i t)
theorem En.wipe1 : ∀ {σ : L2.St} {Γ : Ctx} (i : Nat), En σ G Γ → En (σ.set i none) G (Γ.set i none)
  | _, _, _, .nil => .nil
  | _, _, 0, .cons _ t => .cons (fun x hx => nomatch hx) t
  | _, _, i + 1, .cons h t => .cons h (En.wipe1 i t)
def wipeC (Γ : Ctx) : List Nat → Ctx
  | [] => Γ
  | v :: vs => (wipeC Γ vs).set v none
theorem En.wipe (h : En σ G Γ) : ∀ vs : List Nat, En (wipe σ vs) G (wipeC Γ vs)
  | [] => h
  | v :: vs => (En.wipe h vs).wipe1 v
/-- Γ knows at least what Γ' knows -/
abbrev Sub (Γ Γ' : Ctx) : Prop := Paired (fun (a b : Option Rp) => b = none ∨ a = b) Γ Γ'
theorem En.weak : ∀ {σ : L2.St} {Γ Γ' : Ctx}, En σ G Γ → Sub Γ Γ' → En σ G Γ'
  | _, _, _, .nil, .nil => .nil
  | _, _, _, .cons h t, .cons q u => .cons (fun x hx => by
      rcases q with q | q
      · rw [q] at hx; cases hx
      · exact h x (q.trans hx)) (En.weak t u)
theorem En.start (N : List Str) {vs : List V} {rs : List Rp} (h : RA G vs rs) (hn : N.length - vs.length = k) : En (L2.start N vs) G (rs.map some ++ List.replicate k none) := by
  unfold L2.start
  rw [hn]
  have h2 : En (List.replicate k none) G (List.replicate k none) := by
    clear hn
    induction k with
    | zero => exact .nil
    | succ k ih => exact .cons (fun x hx => nomatch hx) ih
  clear hn
  induction h with
  | nil => exact h2
  | cons a t ih => exact .cons (fun x hx => ⟨_, rfl, by cases hx; exact a⟩) ih
theorem wipe_in {x : V} {j : Nat} : ∀ {vs : List Nat} (τ : L2.St), j ∈ vs → wipe (τ.set j (some x)) vs = wipe τ vs
  | [], _, h => nomatch h
  | u :: vs, τ, h => by
    unfold wipe
    by_cases c : j ∈ vs
    · rw [wipe_in τ c]
    · have e : j = u := by
        rcases List.mem_cons.mp h with q | q
        · exact q
        · exact absurd q c
      subst e
      rw [show ∀ (vs : List Nat), j ∉ vs → wipe (τ.set j (some x)) vs = (wipe τ vs).set j (some x) from fun vs => by
        induction vs with
        | nil => intro _; rfl
        | cons w ws ih =>
          intro hn
          unfold wipe
          rw [ih fun z => hn (List.mem_cons_of_mem _ z), List.set_comm _ _ (fun z => hn (by rw [z]; exact List.mem_cons_self))]]
      · rw [List.set_set]
      · exact c
theorem wipe_idem (σ : L2.St) : ∀ vs : List Nat, wipe (wipe σ vs) vs = wipe σ vs := by
  have key : ∀ (vs : List Nat) (τ : L2.St), (∀ i ∈ vs, ∀ x, τ[i]? ≠ some (some x)) → wipe τ vs = τ := fun vs => by
    induction vs with
    | nil => intro τ _; rfl
    | cons u vs ih =>
      intro τ h
      unfold wipe
      rw [ih τ fun i hi => h i (List.mem_cons_of_mem _ hi)]
      apply List.ext_getElem?
      intro i
      by_cases c : u = i
      · subst c
        rw [List.getElem?_set_self']
        cases q : τ[u]? with
        | none => rfl
        | some o =>
          cases o with
          | none => rfl
          | some x => exact absurd q (h u List.mem_cons_self x)
      · rw [List.getElem?_set_ne c]
  intro vs
  exact key vs _ fun i hi x hx => (wipe_some hx).2 hi
theorem wipe_turn (σ : L2.St) {vs : List Nat} {j : Nat} (h : j ∈ vs) (x : V) : wipe ((wipe σ vs).set j (some x)) vs = wipe σ vs := by rw [wipe_in _ h, wipe_idem]
end
/-! ### things that may change -/
structure Re where
  own : Bool
  ft : List Addr
  p : Hp → Hp → Prop
  mono : ∀ {G G' H : Hp}, Ex G G' → p G H → p G' H
  loc : ∀ {G H H' : Hp}, (∀ a ∈ ft, ∀ o, H a = some o → H' a = some o) → p G H → p G H'
  at_ : ∀ {G H : Hp}, p G H → ∀ a ∈ ft, ∃ o, H a = some o
def feet (M : List Re) : List Addr := M.flatMap Re.ft
theorem mem_feet {M : List Re} {r : Re} {a : Addr} (h : r ∈ M) (ha : a ∈ r.ft) : a ∈ feet M := List.mem_flatMap.mpr ⟨r, h, ha⟩
/-- a list of our own -/
def lstR (p : Addr) (rs : List Rp) : Re where
  own := true
  ft := [p]
  p := fun G H => ∃ ws, H p = some (.lst ws) ∧ RA G ws rs
  mono := fun e ⟨ws, h1, h2⟩ => ⟨ws, h1, h2.mono e⟩
  loc := fun k ⟨ws, h1, h2⟩ => ⟨ws, k p (List.mem_singleton.mpr rfl) _ h1, h2⟩
  at_ := fun ⟨ws, h1, _⟩ a ha => by rw [List.mem_singleton.mp ha]; exact ⟨_, h1⟩
def boxR (K : PySem.W.Frag) (b : Addr) : Re where
  own := false
  ft := [b]
  p := fun G H => Box K G H b
  mono := fun e h => h.mono e (Ex.refl _)
  loc := fun k h => h.mono' (Ex.refl _) fun o z => k b (List.mem_singleton.mpr rfl) o z
  at_ := fun h a ha => by rw [List.mem_singleton.mp ha]; exact h.at_
/-- where one came from: the footprint, the heap, what might be changed; Gl: a footprint on the way -/
structure Ba where
  G0 : Hp
  H0 : Hp
  F : List Addr
  Gl : Hp
structure Ok (B : Ba) (G H : Hp) (M : List Re) : Prop where
  g : Ex B.G0 G
  l : Ex B.Gl G
  h : ∀ a o, B.H0 a = some o → a ∉ B.F → H a = some o
  i : Ex G H
  n : ∀ a o, B.H0 a = some o → B.G0 a = none → G a = none
  k : ∀ a ∈ B.F, ∃ o, H a = some o
  m : ∀ r ∈ M, r.p G H
  z : ∀ a ∈ feet M, G a = none
  d : (feet M).Nodup
  f : ∀ r ∈ M, ∀ a ∈ r.ft, B.H0 a = none ∨ (r.own = false ∧ a ∈ B.F)
section
variable {B : Ba} {G H G2 H2 : Hp} {M : List Re} {R R' : Re} {k : Nat}
theorem Ok.gr (o : Ok B G H M) (g : Gr G H G2 H2) : Ok B G2 H2 M where
  g := o.g.trans g.g
  l := o.l.trans g.g
  h := fun a u z n => g.h a u (o.h a u z n)
  i := g.i
  n := fun a u z y => by
    by_cases c : a ∈ B.F
    · obtain ⟨u2, z2⟩ := o.k a c
      exact g.n a u2 z2 (o.n a u z y)
    · exact g.n a u (o.h a u z c) (o.n a u z y)
  k := fun a c => by
    obtain ⟨u, z⟩ := o.k a c
    exact ⟨u, g.h a u z⟩
  m := fun r hr => r.loc (fun a _ u z => g.h a u z) (r.mono g.g (o.m r hr))
  z := fun a ha => by
    obtain ⟨r, hr, hf⟩ := List.mem_flatMap.mp ha
    obtain ⟨u, z⟩ := r.at_ (o.m r hr) a hf
    exact g.n a u z (o.z a ha)
  d := o.d
  f := o.f
theorem Ok.ex (o : Ok B G H M) (e : Ex H H2) : Ok B G H2 M := o.gr ((Gr.refl o.i).more e)
theorem feet_set {M : List Re} {k : Nat} (hk : M[k]? = some R) (hf : R'.ft = R.ft) : feet (M.set k R') = feet M := by
  induction M generalizing k with
  | nil => rfl
  | cons a M ih =>
    cases k with
    | zero =>
      simp at hk
      subst hk
      show R'.ft ++ _ = a.ft ++ _
      rw [hf]
    | succ k =>
      show a.ft ++ feet (M.set k R') = a.ft ++ feet M
      rw [ih (by simpa using hk)]
theorem feet_apart {M : List Re} (hd : (feet M).Nodup) : ∀ {k : Nat} {R r : Re}, M[k]? = some R → r ∈ M.eraseIdx k → ∀ a ∈ r.ft, a ∉ R.ft := by
  induction M with
  | nil => intro k R r h; simp at h
  | cons b M ih =>
    intro k R r hk hr a ha hR
    have hd' : (b.ft ++ feet M).Nodup := hd
    have h3 := List.nodup_append.mp hd'
    cases k with
    | zero =>
      simp at hk hr
      subst hk
      exact h3.2.2 a hR a (mem_feet hr ha) rfl
    | succ k =>
      simp at hk hr
      have hRm : R ∈ M := List.mem_of_getElem? hk
      rcases hr with hr | hr
      · subst hr
        exact h3.2.2 a ha a (mem_feet hRm hR) rfl
      · exact ih h3.2.1 hk hr a ha hR
theorem mem_set_or {M : List Re} : ∀ {k : Nat} {R' r : Re}, r ∈ M.set k R' → r = R' ∨ r ∈ M.eraseIdx k := by
  induction M with
  | nil => intro k R' r h; simp at h
  | cons b M ih =>
    intro k R' r h
    cases k with
    | zero =>
      simp at h ⊢
      exact h
    | succ k =>
      simp at h ⊢
      rcases h with h | h
      · exact .inr (.inl h)
      · rcases ih h with q | q
        · exact .inl q
        · exact .inr (.inr q)
theorem mem_erase {M : List Re} {k : Nat} {r : Re} (h : r ∈ M.eraseIdx k) : r ∈ M := List.eraseIdx_subset h
/-- one of the things has changed -/
theorem Ok.chg (o : Ok B G H M) (hk : M[k]? = some R) (hf : R'.ft = R.ft) (ho : R'.own = R.own) (e : Ex G G2) (hh : ∀ a u, H a = some u → a ∉ R.ft → H2 a = some u) (i : Ex G2 H2) (n : ∀ a u, H a = some u → G a = none → G2 a = none) (m : R'.p G2 H2) : Ok B G2 H2 (M.set k R') where
  g := o.g.trans e
  l := o.l.trans e
  h := fun a u z c => hh a u (o.h a u z c) fun q => by
    rcases o.f R (List.mem_of_getElem? hk) a q with y | y
    · rw [y] at z; cases z
    · exact c y.2
  i := i
  n := fun a u z y => by
    by_cases c : a ∈ B.F
    · obtain ⟨u2, z2⟩ := o.k a c
      exact n a u2 z2 (o.n a u z y)
    · exact n a u (o.h a u z c) (o.n a u z y)
  k := fun a c => by
    obtain ⟨u, z⟩ := o.k a c
    by_cases q : a ∈ R.ft
    · exact R'.at_ m a (hf ▸ q)
    · exact ⟨u, hh a u z q⟩
  m := fun r hr => by
    rcases mem_set_or hr with q | q
    · rw [q]; exact m
    · exact r.loc (fun a ha u z => hh a u z (feet_apart o.d hk q a ha)) (r.mono e (o.m r (mem_erase q)))
  z := fun a ha => by
    rw [feet_set hk hf] at ha
    obtain ⟨r, hr, hf'⟩ := List.mem_flatMap.mp ha
    obtain ⟨u, z⟩ := r.at_ (o.m r hr) a hf'
    exact n a u z (o.z a ha)
  d := by rw [feet_set hk hf]; exact o.d
  f := fun r hr a ha => by
    rcases mem_set_or hr with q | q
    · subst q
      rw [ho]
      exact o.f R (List.mem_of_getElem? hk) a (hf ▸ ha)
    · exact o.f r (mem_erase q) a ha
theorem feet_snoc {M : List Re} : feet (M ++ [R]) = feet M ++ R.ft := by unfold feet; rw [List.flatMap_append]; simp
/-- a new thing of our own -/
theorem Ok.add (o : Ok B G H M) (g : Gr G H G2 H2) (hd : R.ft.Nodup) (hn : ∀ a ∈ R.ft, H a = none ∧ G2 a = none) (m : R.p G2 H2) : Ok B G2 H2 (M ++ [R]) := by
  have o2 := o.gr g
  refine ⟨o2.g, o2.l, o2.h, o2.i, o2.n, o2.k, fun r hr => ?_, fun a ha => ?_, ?_, fun r hr a ha => ?_⟩
  · rcases List.mem_append.mp hr with q | q
    · exact o2.m r q
    · rw [List.mem_singleton.mp q]; exact m
  · rw [feet_snoc] at ha
    rcases List.mem_append.mp ha with q | q
    · exact o2.z a q
    · exact (hn a q).2
  · rw [feet_snoc]
    refine List.nodup_append.mpr ⟨o.d, hd, fun a ha b hb e => ?_⟩
    subst e
    obtain ⟨r, hr, hf⟩ := List.mem_flatMap.mp ha
    obtain ⟨u, z⟩ := r.at_ (o.m r hr) a hf
    rw [(hn a hb).1] at z; cases z
  · rcases List.mem_append.mp hr with q | q
    · exact o.f r q a ha
    · rw [List.mem_singleton.mp q] at ha
      refine .inl ?_
      cases z : B.H0 a with
      | none => rfl
      | some u =>
        by_cases c : a ∈ B.F
        · obtain ⟨u2, z2⟩ := o.k a c
          rw [(hn a ha).1] at z2; cases z2
        · have := o.h a u z c
          rw [(hn a ha).1] at this; cases this
theorem feet_erase_sub {M : List Re} {k : Nat} {a : Addr} (h : a ∈ feet (M.eraseIdx k)) : a ∈ feet M := by
  obtain ⟨r, hr, hf⟩ := List.mem_flatMap.mp h
  exact mem_feet (mem_erase hr) hf
theorem feet_erase_nodup {M : List Re} : ∀ {k : Nat}, (feet M).Nodup → (feet (M.eraseIdx k)).Nodup := by
  induction M with
  | nil => intro k h; simpa using h
  | cons b M ih =>
    intro k h
    have h3 := List.nodup_append.mp (show (b.ft ++ feet M).Nodup from h)
    cases k with
    | zero => exact h3.2.1
    | succ k =>
      show (b.ft ++ feet (M.eraseIdx k)).Nodup
      exact List.nodup_append.mpr ⟨h3.1, ih h3.2.1, fun x hx y hy => h3.2.2 x hx y (feet_erase_sub hy)⟩
/-- a list of our own is not changed any more -/
theorem Ok.frz {p : Addr} {rs : List Rp} {K : PySem.W.Frag} (o : Ok B G H M) (hk : M[k]? = some (lstR p rs)) : ∃ G2, Ex G G2 ∧ Ok B G2 H (M.eraseIdx k) ∧ (rL K rs).p (.ref p) G2 := by
  have hm := List.mem_of_getElem? hk
  obtain ⟨ws, h1, h2⟩ := o.m _ hm
  have gp : G p = none := o.z p (mem_feet hm (List.mem_singleton.mpr rfl))
  have e : Ex G (upd G p (.lst ws)) := Ex.new gp
  refine ⟨upd G p (.lst ws), e, ⟨o.g.trans e, o.l.trans e, o.h, ex_add o.i h1, fun a u z y => ?_, o.k, fun r hr => r.mono e (o.m r (mem_erase hr)), fun a ha => ?_, feet_erase_nodup o.d, fun r hr => o.f r (mem_erase hr)⟩, ⟨p, ws, rfl, upd_same, h2.mono e⟩⟩
  · rcases o.f _ hm p (List.mem_singleton.mpr rfl) with q | q
    · rw [upd_ne (ne_of_none z q)]; exact o.n a u z y
    · exact absurd q.1 (show ¬ (true = false) by decide)
  · obtain ⟨r, hr, hf⟩ := List.mem_flatMap.mp ha
    have ne : a ≠ p := fun q => feet_apart o.d hk hr a hf (List.mem_singleton.mpr q)
    rw [upd_ne ne]
    exact o.z a (feet_erase_sub ha)
theorem Ok.drop (o : Ok B G H M) : Ok B G H (M.eraseIdx k) := ⟨o.g, o.l, o.h, o.i, o.n, o.k, fun r hr => o.m r (mem_erase hr), fun a ha => o.z a (feet_erase_sub ha), feet_erase_nodup o.d, fun r hr => o.f r (mem_erase hr)⟩
theorem Ok.nil (e : Ex G H) : Ok ⟨G, H, [], G⟩ G H [] := ⟨Ex.refl _, Ex.refl _, fun _ _ z _ => z, e, fun _ _ _ y => y, fun _ h => (nomatch h), fun _ h => (nomatch h), fun _ h => (nomatch h), List.nodup_nil, fun _ h => (nomatch h)⟩
theorem Ok.to {G0 H0 Gl : Hp} (o : Ok ⟨G0, H0, [], Gl⟩ G H M) : Gr G0 H0 G H := ⟨o.g, fun a u z => o.h a u z (fun q => nomatch q), o.i, o.n⟩
theorem Ok.box {K : PySem.W.Frag} {b : Addr} (e : Ex G H) (gb : G b = Option.none) (hb : Box K G H b) : Ok ⟨G, H, [b], G⟩ G H [boxR K b] :=
  ⟨Ex.refl _, Ex.refl _, fun _ _ z _ => z, e, fun _ _ _ y => y, fun a h => by rw [List.mem_singleton.mp h]; exact hb.at_, fun r h => by rw [List.mem_singleton.mp h]; exact hb, fun a h => by
    have : a ∈ [b] := by simpa [feet, boxR] using h
    rw [List.mem_singleton.mp this]; exact gb, by simp [feet, boxR], fun r h a ha => by
    rw [List.mem_singleton.mp h] at ha ⊢
    exact .inr ⟨rfl, ha⟩⟩
theorem Ok.toB {G0 H0 Gl : Hp} {b : Addr} (o : Ok ⟨G0, H0, [b], Gl⟩ G H M) : GrB b G0 H0 G H := ⟨o.g, fun a u z n => o.h a u z (fun q => n (List.mem_singleton.mp q)), o.i, o.n⟩
end
/-! ### readings -/
def EvX (Γ : Ctx) (te : TE) (r : Rp) : Prop := ∀ σ G, En σ G Γ → EvD te σ G r
def EvNX (Γ : Ctx) (te : TE) (rs : List Rp) : Prop := ∀ σ G, En σ G Γ → EvN te σ G rs
def EvTX (Γ : Ctx) (t : TT) (b : Bool) : Prop := ∀ σ G, En σ G Γ → EvT t σ G b
def EvAX (Γ : Ctx) (ta : TA) (rs : List Rp) : Prop := ∀ σ G, En σ G Γ → EvAD ta σ G rs
/-- with changes -/
def EX (Γ : Ctx) (M : List Re) (te : TE) (κ : Rp → List Re → Prop) : Prop := ∀ B G H σ, Ok B G H M → En σ G Γ → ∀ Q : VK, (∀ v G' H' r M', κ r M' → Ok B G' H' M' → Ex G G' → r.p v G' → Q v H') → te σ H Q
def EXT (Γ : Ctx) (M : List Re) (t : TT) (κ : Bool → List Re → Prop) : Prop := ∀ B G H σ, Ok B G H M → En σ G Γ → ∀ Q : Bool → Hp → Prop, (∀ c G' H' M', κ c M' → Ok B G' H' M' → Ex G G' → Q c H') → t σ H Q
section
variable {Γ : Ctx} {M : List Re} {te ta tb : TE} {t : TT} {r : Rp} {b : Addr} {K : PySem.W.Frag} {P : Rp → Prop} {k i : Nat}
theorem EX.of (h : EvX Γ te r) : EX Γ M te (fun r' M' => r' = r ∧ M' = M) := fun B G H σ o en Q q => h σ G en H o.i Q fun v G2 H2 g hv => q v G2 H2 r M ⟨rfl, rfl⟩ (o.gr g) g.g hv
theorem EXT.of {c : Bool} (h : EvTX Γ t c) : EXT Γ M t (fun c' M' => c' = c ∧ M' = M) := fun B G H σ o en Q q => h σ G en H o.i Q fun H2 e => q c G H2 M ⟨rfl, rfl⟩ (o.ex e) (Ex.refl _)
theorem EX.imp {κ κ' : Rp → List Re → Prop} (h : EX Γ M te κ) (hk : ∀ r M', κ r M' → κ' r M') : EX Γ M te κ' := fun B G H σ o en Q q => h B G H σ o en Q fun v G' H' r M' z => q v G' H' r M' (hk r M' z)
theorem set_same {M : List Re} {R : Re} (h : M[k]? = some R) : M.set k R = M := by
  apply List.ext_getElem?
  intro i
  by_cases c : k = i
  · subst c
    rw [List.getElem?_set_self', h]; rfl
  · rw [List.getElem?_set_ne c]
theorem Ok.grB {B : Ba} {G H G2 H2 : Hp} (o : Ok B G H M) (hk : M[k]? = some (boxR K b)) (g : GrB b G H G2 H2) (hb : Box K G2 H2 b) : Ok B G2 H2 M := by
  have := o.chg (R' := boxR K b) hk rfl rfl g.g (fun a u z n => g.h a u z fun q => n (List.mem_singleton.mpr q)) g.i g.n hb
  rwa [set_same hk] at this
theorem EX.ofB (hk : M[k]? = some (boxR K b)) (h : ∀ σ G, En σ G Γ → EvB K te σ b G P) : EX Γ M te (fun r M' => P r ∧ M' = M) := fun B G H σ o en Q q => by
  have hm := List.mem_of_getElem? hk
  have gb : G b = none := o.z b (mem_feet hm (List.mem_singleton.mpr rfl))
  exact h σ G en H o.i gb (o.m _ hm) Q fun r v G2 H2 p g hb hv => q v G2 H2 r M ⟨p, rfl⟩ (o.grB hk g hb) g.g hv
theorem EXT.ofB {P : Bool → Prop} (hk : M[k]? = some (boxR K b)) (h : ∀ σ G, En σ G Γ → EvTB K t σ b G P) : EXT Γ M t (fun c M' => P c ∧ M' = M) := fun B G H σ o en Q q => by
  have hm := List.mem_of_getElem? hk
  have gb : G b = none := o.z b (mem_feet hm (List.mem_singleton.mpr rfl))
  exact h σ G en H o.i gb (o.m _ hm) Q fun c G2 H2 p g hb => q c G2 H2 M ⟨p, rfl⟩ (o.grB hk g hb) g.g
/-- a list of our own is read -/
theorem Ok.rd {B : Ba} {G H : Hp} {p : Addr} {rs : List Rp} {σ : L2.St} (o : Ok B G H M) (hk : M[k]? = some (lstR p rs)) (hi : Γ[i]? = some (some (rV (.ref p)))) (en : En σ G Γ) : ∃ G2, Ex G2 H ∧ En σ G2 (Γ.set i (some (rL K rs))) := by
  have hm := List.mem_of_getElem? hk
  obtain ⟨ws, h1, h2⟩ := o.m _ hm
  have gp : G p = none := o.z p (mem_feet hm (List.mem_singleton.mpr rfl))
  have e : Ex G (upd G p (.lst ws)) := Ex.new gp
  obtain ⟨v, hv1, hv2⟩ := en.get hi
  obtain rfl : v = V.ref p := hv2
  refine ⟨upd G p (.lst ws), ex_add o.i h1, ?_⟩
  have z := En.set (r := rL K rs) (v := .ref p) ⟨p, ws, rfl, upd_same, h2.mono e⟩ i (en.mono e)
  have es : σ.set i (some (.ref p)) = σ := by
    apply List.ext_getElem?
    intro j
    by_cases c : i = j
    · subst c
      rw [List.getElem?_set_self', hv1]; rfl
    · rw [List.getElem?_set_ne c]
  rwa [es] at z
theorem EX.rd {p : Addr} {rs : List Rp} {v : V} (hk : M[k]? = some (lstR p rs)) (hi : Γ[i]? = some (some (rV (.ref p)))) (h : EvX (Γ.set i (some (rL K rs))) te (rV v)) : EX Γ M te (fun r M' => r = rV v ∧ M' = M) := fun B G H σ o en Q q => by
  obtain ⟨G2, e2, en2⟩ := o.rd (K := K) hk hi en
  exact h σ G2 en2 H e2 Q fun w G3 H3 g hw => q w G H3 (rV v) M ⟨rfl, rfl⟩ (o.ex g.h) (Ex.refl _) hw
theorem EXT.rd {p : Addr} {rs : List Rp} {c : Bool} (hk : M[k]? = some (lstR p rs)) (hi : Γ[i]? = some (some (rV (.ref p)))) (h : EvTX (Γ.set i (some (rL K rs))) t c) : EXT Γ M t (fun c' M' => c' = c ∧ M' = M) := fun B G H σ o en Q q => by
  obtain ⟨G2, e2, en2⟩ := o.rd (K := K) hk hi en
  exact h σ G2 en2 H e2 Q fun H3 e3 => q c G H3 M ⟨rfl, rfl⟩ (o.ex e3) (Ex.refl _)
end
/-! ### statements -/
structure Kn where
  nx : Ctx → List Re → Prop
  rt : Rp → List Re → Prop := fun _ _ => False
  bk : Ctx → List Re → Prop := fun _ _ => False
  ct : Ctx → List Re → Prop := fun _ _ => False
  /-- an exception: its class, its fields -/
  ex : Ctx → Value → List (Str × V) → List Re → Prop := fun _ _ _ _ => False
/-- an exception's dict -/
def XdOk (G : Hp) (fs : List (Str × V)) : Option Addr → Prop
  | some d => G d = some (.xd fs)
  | none => fs = []
theorem XdOk.mono {G G' : Hp} {fs : List (Str × V)} (e : Ex G G') : ∀ {d : Option Addr}, XdOk G fs d → XdOk G' fs d
  | some d, h => e d _ h
  | none, h => h
structure Dk (B : Ba) (W : WX) (D : Ends) (κ : Kn) : Prop where
  nx : ∀ σ G H Γ M, Ok B G H M → En σ G Γ → κ.nx Γ M → D.nx σ H
  rt : ∀ v G H r M, Ok B G H M → r.p v G → κ.rt r M → D.rt v H
  bk : ∀ σ G H Γ M, Ok B G H M → En σ G Γ → κ.bk Γ M → D.bk σ H
  ct : ∀ σ G H Γ M, Ok B G H M → En σ G Γ → κ.ct Γ M → D.ct σ H
  ex : ∀ σ G H Γ M cls d fs, Ok B G H M → En σ G Γ → XdOk G fs d → κ.ex Γ cls fs M → W cls d σ H
def WP (W : WX) (Γ : Ctx) (M : List Re) (t : TS) (κ : Kn) : Prop := ∀ B G H σ D, Ok B G H M → En σ G Γ → Dk B W D κ → t D σ H
section
variable {W : WX} {Γ Γ' : Ctx} {M : List Re} {te ta tb tl : TE} {t1 t2 tu tw : TS} {tt : TT} {κ : Kn} {r : Rp} {K : PySem.W.Frag} {i j k : Nat}
theorem w_seq (h : WP W Γ M t1 { κ with nx := fun Γ' M' => WP W Γ' M' t2 κ }) : WP W Γ M (tSeq t1 t2) κ := fun B G H σ D o en d =>
  h B G H σ _ o en ⟨fun σ' G' H' Γ' M' o' en' w => w B G' H' σ' D o' en' d, d.rt, d.bk, d.ct, d.ex⟩
theorem w_nx (h : κ.nx Γ M) : WP W Γ M tNext κ := fun B G H σ D o en d => d.nx σ G H Γ M o en h
theorem w_sub (hs : Sub Γ Γ') (h : WP W Γ' M t1 κ) : WP W Γ M t1 κ := fun B G H σ D o en d => h B G H σ D o (en.weak hs) d
theorem w_imp {κ' : Kn} (h : WP W Γ M t1 κ) (h1 : ∀ Γ M, κ.nx Γ M → κ'.nx Γ M) (h2 : ∀ r M, κ.rt r M → κ'.rt r M) (h3 : ∀ Γ M, κ.bk Γ M → κ'.bk Γ M) (h4 : ∀ Γ M, κ.ct Γ M → κ'.ct Γ M) (h5 : ∀ Γ c f M, κ.ex Γ c f M → κ'.ex Γ c f M) : WP W Γ M t1 κ' := fun B G H σ D o en d =>
  h B G H σ D o en ⟨fun σ G H Γ M o en z => d.nx σ G H Γ M o en (h1 Γ M z), fun v G H r M o hv z => d.rt v G H r M o hv (h2 r M z), fun σ G H Γ M o en z => d.bk σ G H Γ M o en (h3 Γ M z), fun σ G H Γ M o en z => d.ct σ G H Γ M o en (h4 Γ M z), fun σ G H Γ M c dd fs o en x z => d.ex σ G H Γ M c dd fs o en x (h5 Γ c fs M z)⟩
theorem w_set (h : EvX Γ te r) (hn : κ.nx (Γ.set i (some r)) M) : WP W Γ M (tAsg te (gName i)) κ := fun B G H σ D o en d =>
  h σ G en H o.i _ fun v G2 H2 g hv => d.nx _ G2 H2 _ M (o.gr g) ((en.mono g.g).set hv i) hn
theorem w_setE {κ1 : Rp → List Re → Prop} (h : EX Γ M te κ1) (hn : ∀ r M', κ1 r M' → κ.nx (Γ.set i (some r)) M') : WP W Γ M (tAsg te (gName i)) κ := fun B G H σ D o en d =>
  h B G H σ o en _ fun v G2 H2 r M' z o2 e hv => d.nx _ G2 H2 _ M' o2 ((en.mono e).set hv i) (hn r M' z)
/-- a new list of our own -/
theorem w_setN {rs : List Rp} (h : EvNX Γ te rs) (hn : ∀ p, κ.nx (Γ.set i (some (rV (.ref p)))) (M ++ [lstR p rs])) : WP W Γ M (tAsg te (gName i)) κ := fun B G H σ D o en d =>
  h σ G en H o.i _ fun p vs G2 H2 g hp gp h2 ra => d.nx _ G2 H2 _ _ (o.add (R := lstR p rs) g (show [p].Nodup by simp) (fun a ha => by rw [List.mem_singleton.mp ha]; exact ⟨hp, gp⟩) ⟨vs, h2, ra⟩) ((en.mono g.g).set (r := rV (.ref p)) rfl i) (hn p)
theorem w_ret (h : EvX Γ te r) (hn : κ.rt r M) : WP W Γ M (tRet te) κ := fun B G H σ D o en d => h σ G en H o.i _ fun v G2 H2 g hv => d.rt v G2 H2 r M (o.gr g) hv hn
theorem w_retE {κ1 : Rp → List Re → Prop} (h : EX Γ M te κ1) (hn : ∀ r M', κ1 r M' → κ.rt r M') : WP W Γ M (tRet te) κ := fun B G H σ D o en d =>
  h B G H σ o en _ fun v G2 H2 r M' z o2 e hv => d.rt v G2 H2 r M' o2 hv (hn r M' z)
theorem w_retN {rs : List Rp} (h : EvNX Γ te rs) (hn : ∀ p, κ.rt (rV (.ref p)) (M ++ [lstR p rs])) : WP W Γ M (tRet te) κ := fun B G H σ D o en d =>
  h σ G en H o.i _ fun p vs G2 H2 g hp gp h2 ra => d.rt _ G2 H2 (rV (.ref p)) _ (o.add (R := lstR p rs) g (show [p].Nodup by simp) (fun a ha => by rw [List.mem_singleton.mp ha]; exact ⟨hp, gp⟩) ⟨vs, h2, ra⟩) rfl (hn p)
theorem w_ret0 (hn : κ.rt (rV .non) M) : WP W Γ M tRetN κ := fun B G H σ D o en d => d.rt _ G H (rV .non) M o rfl hn
theorem w_if {b : Bool} (h : EvTX Γ tt b) (h1 : b = true → WP W Γ M tu κ) (h2 : b = false → WP W Γ M tw κ) : WP W Γ M (tIfS tt tu tw) κ := fun B G H σ D o en d =>
  h σ G en H o.i _ fun H2 e => by
    cases b with
    | true =>
      show tu D σ H2
      exact h1 rfl B G H2 σ D (o.ex e) en d
    | false =>
      show tw D σ H2
      exact h2 rfl B G H2 σ D (o.ex e) en d
theorem w_ifE {κ1 : Bool → List Re → Prop} (h : EXT Γ M tt κ1) (h1 : ∀ M', κ1 true M' → WP W Γ M' tu κ) (h2 : ∀ M', κ1 false M' → WP W Γ M' tw κ) : WP W Γ M (tIfS tt tu tw) κ := fun B G H σ D o en d =>
  h B G H σ o en _ fun b G2 H2 M' z o2 e => by
    cases b with
    | true =>
      show tu D σ H2
      exact h1 M' z B G2 H2 σ D o2 (en.mono e) d
    | false =>
      show tw D σ H2
      exact h2 M' z B G2 H2 σ D o2 (en.mono e) d
/-- a test whose answer is no -/
theorem w_no (h : EvTX Γ tt false) (h2 : WP W Γ M tw κ) : WP W Γ M (tIfS tt tu tw) κ := w_if h (fun z => nomatch z) fun _ => h2
theorem w_yes (h : EvTX Γ tt true) (h2 : WP W Γ M tu κ) : WP W Γ M (tIfS tt tu tw) κ := w_if h (fun _ => h2) fun z => nomatch z
theorem w_do (h : EvX Γ te r) (hn : κ.nx Γ M) : WP W Γ M (tDrop te) κ := fun B G H σ D o en d => h σ G en H o.i _ fun v G2 H2 g hv => d.nx _ G2 H2 _ M (o.gr g) (en.mono g.g) hn
theorem w_doE {κ1 : Rp → List Re → Prop} (h : EX Γ M te κ1) (hn : ∀ r M', κ1 r M' → κ.nx Γ M') : WP W Γ M (tDrop te) κ := fun B G H σ D o en d =>
  h B G H σ o en _ fun v G2 H2 r M' z o2 e hv => d.nx _ G2 H2 _ M' o2 (en.mono e) (hn r M' z)
/-- a list of our own stays from here on -/
theorem w_frz {p : Addr} {rs : List Rp} (K : PySem.W.Frag) (k i : Nat) (hk : M[k]? = some (lstR p rs)) (hi : Γ[i]? = some (some (rV (.ref p)))) (h : WP W (Γ.set i (some (rL K rs))) (M.eraseIdx k) t1 κ) : WP W Γ M t1 κ := fun B G H σ D o en d => by
  obtain ⟨G2, e, o2, hr⟩ := o.frz (K := K) hk
  obtain ⟨v, hv1, hv2⟩ := en.get hi
  obtain rfl : v = V.ref p := hv2
  have z := En.set (r := rL K rs) (v := .ref p) hr i (en.mono e)
  have es : σ.set i (some (.ref p)) = σ := by
    apply List.ext_getElem?
    intro j
    by_cases c : i = j
    · subst c
      rw [List.getElem?_set_self', hv1]; rfl
    · rw [List.getElem?_set_ne c]
  rw [es] at z
  exact h B G2 H σ D o2 z d
/-- xs.append(e) -/
theorem w_appE {p : Addr} {rs : List Rp} {κ1 : Rp → List Re → Prop} (k : Nat) (hi : Γ[i]? = some (some (rV (.ref p)))) (h : EX Γ M te κ1) (hz : rs.length < 50000) (hn : ∀ r M', κ1 r M' → M'[k]? = some (lstR p rs) ∧ κ.nx Γ (M'.set k (lstR p (rs ++ [r])))) (hk : M[k]? = some (lstR p rs)) :
    WP W Γ M (tDrop (tBM K "list" rAppend (tVar i) (tCons te tNil))) κ := fun B G H σ D o en d => by
  obtain ⟨v, hv1, hv2⟩ := en.get hi
  obtain rfl : v = V.ref p := hv2
  obtain ⟨ws0, hp0, ra0⟩ := o.m _ (List.mem_of_getElem? hk)
  refine ⟨.ref p, hv1, Or.inl ⟨rfl, ws0, sq_of hp0⟩, h B G H σ o en _ fun v G2 H2 r M' z o2 e hv => ?_⟩
  obtain ⟨hk2, hq⟩ := hn r M' z
  obtain ⟨ws, hp, ra⟩ := o2.m _ (List.mem_of_getElem? hk2)
  have gp : G2 p = none := o2.z p (mem_feet (List.mem_of_getElem? hk2) (List.mem_singleton.mpr rfl))
  refine ⟨p, ws, v, rfl, rfl, hp, sz_lt (by rw [ra.len]; omega), d.nx _ G2 _ _ _ (o2.chg (R' := lstR p (rs ++ [r])) hk2 rfl rfl (Ex.refl _) (fun a u z n => ?_) (Ex.mut o2.i gp) (fun _ _ _ y => y) ⟨ws ++ [v], upd_same, ra.snoc hv⟩) (en.mono e) hq⟩
  rw [upd_ne fun q => n (List.mem_singleton.mpr q)]
  exact z
theorem w_app {p : Addr} {rs : List Rp} (k : Nat) (hi : Γ[i]? = some (some (rV (.ref p)))) (h : EvX Γ te r) (hz : rs.length < 50000) (hk : M[k]? = some (lstR p rs)) (hn : κ.nx Γ (M.set k (lstR p (rs ++ [r])))) : WP W Γ M (tDrop (tBM K "list" rAppend (tVar i) (tCons te tNil))) κ :=
  w_appE k hi (EX.of h) hz (fun r' M' z => by obtain ⟨rfl, rfl⟩ := z; exact ⟨hk, hn⟩) hk
/-! loops: the data a : α that hold between two turns, by P, the slots and things then -/
variable {α β : Type}
def LI (P : Nat → α → Prop) (Γi : Nat → α → Ctx) (Mi : Nat → α → List Re) (n : Nat) : Ctx → List Re → Prop := fun Γ' M' => ∃ a, P n a ∧ Sub Γ' (Γi n a) ∧ M' = Mi n a
def kLoop (I : Ctx → List Re → Prop) (κ : Kn) : Kn := { nx := I, ct := I, bk := κ.nx, rt := κ.rt, ex := κ.ex }
def Pv (B : Ba) (I : Ctx → List Re → Prop) : L2.St → Hp → Prop := fun σ H => ∃ G Γ M, Ok B G H M ∧ En σ G Γ ∧ I Γ M
theorem Dk.loop {B : Ba} {D : Ends} {I : Ctx → List Re → Prop} (d : Dk B W D κ) : Dk B W { D with nx := Pv B I, ct := Pv B I, bk := D.nx } (kLoop I κ) :=
  ⟨fun σ G H Γ M o en z => ⟨G, Γ, M, o, en, z⟩, d.rt, d.nx, fun σ G H Γ M o en z => ⟨G, Γ, M, o, en, z⟩, d.ex⟩
theorem w_forR (n : Nat) (P : Nat → α → Prop) (Γi : Nat → α → Ctx) (Mi : Nat → α → List Re) (h : EvX Γ ta (nI n)) (hn : n ≤ 100000) (a0 : α) (p0 : P 0 a0) (s0 : Sub Γ (Γi 0 a0)) (m0 : M = Mi 0 a0)
    (hs : ∀ i a, i < n → P i a → WP W ((Γi i a).set j (some (nI i))) (Mi i a) tu (kLoop (LI P Γi Mi (i + 1)) κ)) (hd : ∀ a, P n a → κ.nx (Γi n a) (Mi n a)) : WP W Γ M (tFor (iRng1 (tCons ta tNil)) (gName j) tu) κ := fun B G H σ D o en d => by
  refine Mu.s_forR n o.i (ea_cons (EvD.ev (h σ G en)) ea_nil) hn (fun i σ' H' => ∃ G Γ M, Ok B G H' M ∧ En σ' G Γ ∧ LI P Γi Mi i Γ M) (fun H1 e => ⟨G, Γ, M, o.ex e, en, a0, p0, s0, m0⟩) (fun i σ' H' hi ⟨G1, Γ1, M1, o1, en1, a, pa, sa, ma⟩ => ?_) (fun σ' H' ⟨G1, Γ1, M1, o1, en1, a, pa, sa, ma⟩ => ?_)
  · subst ma
    exact hs i a hi pa B G1 H' _ _ o1 ((en1.weak sa).set (r := nI i) rfl j) d.loop
  · subst ma
    exact d.nx _ G1 H' _ _ o1 (en1.weak sa) (hd a pa)
/-- a footprint on the way is kept -/
def Ba.low (B : Ba) (G : Hp) : Ba := { B with Gl := G }
theorem Ok.low {B : Ba} {G H G1 : Hp} (o : Ok B G H M) (e : Ex G1 G) : Ok (B.low G1) G H M := ⟨o.g, e, o.h, o.i, o.n, o.k, o.m, o.z, o.d, o.f⟩
theorem Ok.up {B : Ba} {G H G1 : Hp} (o : Ok (B.low G1) G H M) (e : Ex B.Gl G1) : Ok B G H M := ⟨o.g, e.trans o.l, o.h, o.i, o.n, o.k, o.m, o.z, o.d, o.f⟩
theorem Dk.low {B : Ba} {D : Ends} {G1 : Hp} (d : Dk B W D κ) (e : Ex B.Gl G1) : Dk (B.low G1) W D κ := ⟨fun σ G H Γ M o en z => d.nx σ G H Γ M (o.up e) en z, fun v G H r M o hv z => d.rt v G H r M (o.up e) hv z, fun σ G H Γ M o en z => d.bk σ G H Γ M (o.up e) en z, fun σ G H Γ M o en z => d.ct σ G H Γ M (o.up e) en z, fun σ G H Γ M c dd fs o en x z => d.ex σ G H Γ M c dd fs (o.up e) en x z⟩
theorem w_forL (l : List β) (ρ : β → Rp) (P : Nat → α → Prop) (Γi : Nat → α → Ctx) (Mi : Nat → α → List Re) (h : EvX Γ tl (rL K (l.map ρ))) (a0 : α) (p0 : P 0 a0) (s0 : Sub Γ (Γi 0 a0)) (m0 : M = Mi 0 a0)
    (hs : ∀ i a x, l[i]? = some x → P i a → WP W ((Γi i a).set j (some (ρ x))) (Mi i a) tu (kLoop (LI P Γi Mi (i + 1)) κ)) (hd : ∀ a, P l.length a → κ.nx (Γi l.length a) (Mi l.length a)) : WP W Γ M (tFor (iList K tl) (gName j) tu) κ := fun B G H σ D o en d => by
  refine Mu.s_forL l ρ o.i (h σ G en) (fun G1 i σ' H' => Ex B.Gl G1 ∧ Pv (B.low G1) (LI P Γi Mi i) σ' H') (fun G1 H1 g => ⟨o.l.trans g.g, G1, Γ, M, (o.gr g).low (Ex.refl _), en.mono g.g, a0, p0, s0, m0⟩) (fun G1 i σ' H' ⟨_, G2, _, _, o2, _⟩ => o2.l.trans o2.i) (fun G1 i x y σ' H' e hi hy ⟨eb, G2, Γ1, M1, o1, en1, a, pa, sa, ma⟩ => ?_) (fun G1 σ' H' _ ⟨eb, G2, Γ1, M1, o1, en1, a, pa, sa, ma⟩ => ?_)
  · subst ma
    have d2 := (d.low eb).loop (I := LI P Γi Mi (i + 1))
    exact hs i a x hi pa (B.low G1) G2 H' _ _ o1 ((en1.weak sa).set ((ρ x).mono o1.l hy) j) ⟨fun σ G H Γ M o en z => ⟨eb, d2.nx σ G H Γ M o en z⟩, d2.rt, d2.bk, fun σ G H Γ M o en z => ⟨eb, d2.ct σ G H Γ M o en z⟩, d2.ex⟩
  · subst ma
    exact d.nx _ G2 H' _ _ (o1.up eb) (en1.weak sa) (hd a pa)
theorem w_forT (l : List β) (ρ : β → Rp) (P : Nat → α → Prop) (Γi : Nat → α → Ctx) (Mi : Nat → α → List Re) (h : EvX Γ tl (rT K (l.map ρ))) (a0 : α) (p0 : P 0 a0) (s0 : Sub Γ (Γi 0 a0)) (m0 : M = Mi 0 a0)
    (hs : ∀ i a x, l[i]? = some x → P i a → WP W ((Γi i a).set j (some (ρ x))) (Mi i a) tu (kLoop (LI P Γi Mi (i + 1)) κ)) (hd : ∀ a, P l.length a → κ.nx (Γi l.length a) (Mi l.length a)) : WP W Γ M (tFor (iTup K tl) (gName j) tu) κ := fun B G H σ D o en d => by
  refine Mu.s_forT l ρ o.i (h σ G en) (fun G1 i σ' H' => Ex B.Gl G1 ∧ Pv (B.low G1) (LI P Γi Mi i) σ' H') (fun G1 H1 g => ⟨o.l.trans g.g, G1, Γ, M, (o.gr g).low (Ex.refl _), en.mono g.g, a0, p0, s0, m0⟩) (fun G1 i σ' H' ⟨_, G2, _, _, o2, _⟩ => o2.l.trans o2.i) (fun G1 i x y σ' H' e hi hy ⟨eb, G2, Γ1, M1, o1, en1, a, pa, sa, ma⟩ => ?_) (fun G1 σ' H' _ ⟨eb, G2, Γ1, M1, o1, en1, a, pa, sa, ma⟩ => ?_)
  · subst ma
    have d2 := (d.low eb).loop (I := LI P Γi Mi (i + 1))
    exact hs i a x hi pa (B.low G1) G2 H' _ _ o1 ((en1.weak sa).set ((ρ x).mono o1.l hy) j) ⟨fun σ G H Γ M o en z => ⟨eb, d2.nx σ G H Γ M o en z⟩, d2.rt, d2.bk, fun σ G H Γ M o en z => ⟨eb, d2.ct σ G H Γ M o en z⟩, d2.ex⟩
  · subst ma
    exact d.nx _ G2 H' _ _ (o1.up eb) (en1.weak sa) (hd a pa)
/-- while -/
theorem w_while (P : Nat → α → Prop) (Γi : α → Ctx) (Mi : α → List Re) (m : Nat) (a0 : α) (p0 : P m a0) (s0 : Sub Γ (Γi a0)) (m0 : M = Mi a0)
    (hs : ∀ m a, P m a → ∃ b, EXT (Γi a) (Mi a) tt (fun c M' => c = b ∧ M' = Mi a) ∧ (b = true → WP W (Γi a) (Mi a) tu (kLoop (fun Γ' M' => ∃ m' a', m' < m ∧ P m' a' ∧ Sub Γ' (Γi a') ∧ M' = Mi a') κ)) ∧ (b = false → κ.nx (Γi a) (Mi a))) : WP W Γ M (tWhile tt tu) κ := fun B G H σ D o en d =>
  ⟨fun m σ' H' => Pv B (fun Γ' M' => ∃ a, P m a ∧ Sub Γ' (Γi a) ∧ M' = Mi a) σ' H', ⟨m, G, Γ, M, o, en, a0, p0, s0, m0⟩, fun m σ' H' ⟨G1, Γ1, M1, o1, en1, a, pa, sa, ma⟩ => by
    subst ma
    obtain ⟨b, hb, h1, h2⟩ := hs m a pa
    refine hb B G1 H' σ' o1 (en1.weak sa) _ fun c G2 H2 M2 z o2 e => ?_
    obtain ⟨rfl, rfl⟩ := z
    cases c with
    | true =>
      refine ⟨Pv B (fun Γ' M' => ∃ m' a', m' < m ∧ P m' a' ∧ Sub Γ' (Γi a') ∧ M' = Mi a'), fun σ2 H2 ⟨G3, Γ3, M3, o3, en3, m', a', hm, pa', sa', ma'⟩ => ⟨m', hm, G3, Γ3, M3, o3, en3, a', pa', sa', ma'⟩, ?_⟩
      exact h1 rfl B G2 H2 σ' _ o2 ((en1.weak sa).mono e) d.loop
    | false => exact d.nx _ G2 H2 _ _ o2 ((en1.weak sa).mono e) (h2 rfl)⟩
/-- enumerate -/
theorem w_forE {j' : Nat} {ta : TA} (l : List β) (ρ : β → Rp) (P : Nat → α → Prop) (Γi : Nat → α → Ctx) (Mi : Nat → α → List Re) (h : EvAX Γ ta [rL K (l.map ρ)]) (a0 : α) (p0 : P 0 a0) (s0 : Sub Γ (Γi 0 a0)) (m0 : M = Mi 0 a0)
    (hs : ∀ i a x, l[i]? = some x → P i a → WP W (((Γi i a).set j (some (nI i))).set j' (some (ρ x))) (Mi i a) tu (kLoop (LI P Γi Mi (i + 1)) κ)) (hd : ∀ a, P l.length a → κ.nx (Γi l.length a) (Mi l.length a)) : WP W Γ M (tFor (iEnum K ta) (gTup K 2 (gCons (gName j) (gCons (gName j') gNil))) tu) κ := fun B G H σ D o en d => by
  refine Mu.s_forE l ρ o.i (h σ G en) (fun G1 i σ' H' => Ex B.Gl G1 ∧ Pv (B.low G1) (LI P Γi Mi i) σ' H') (fun G1 H1 g => ⟨o.l.trans g.g, G1, Γ, M, (o.gr g).low (Ex.refl _), en.mono g.g, a0, p0, s0, m0⟩) (fun G1 i σ' H' ⟨_, G2, _, _, o2, _⟩ => o2.l.trans o2.i) (fun G1 i σ' H' H'' ⟨eb, G2, Γ2, M2, o2, z⟩ e => ⟨eb, G2, Γ2, M2, o2.ex e, z⟩) (fun G1 i x y σ' H' e hi hy ⟨eb, G2, Γ1, M1, o1, en1, a, pa, sa, ma⟩ => ?_) (fun G1 σ' H' _ ⟨eb, G2, Γ1, M1, o1, en1, a, pa, sa, ma⟩ => ?_)
  · subst ma
    have d2 := (d.low eb).loop (I := LI P Γi Mi (i + 1))
    exact hs i a x hi pa (B.low G1) G2 H' _ _ o1 (((en1.weak sa).set (r := nI i) rfl j).set ((ρ x).mono o1.l hy) j') ⟨fun σ G H Γ M o en z => ⟨eb, d2.nx σ G H Γ M o en z⟩, d2.rt, d2.bk, fun σ G H Γ M o en z => ⟨eb, d2.ct σ G H Γ M o en z⟩, d2.ex⟩
  · subst ma
    exact d.nx _ G2 H' _ _ (o1.up eb) (en1.weak sa) (hd a pa)
end
end Mu

namespace Mu
open PySem PySem.Spec PyProof.Rows L2 Evl
section
variable {Γ : Ctx} {M : List Re} {te ta tb tc tl : TE} {t u : TT} {r r1 r2 r3 : Rp} {rs : List Rp} {K : PySem.W.Frag} {C : Addr} {i j : Nat} {v w x y : V} {a b : Int} {m n : Nat} {E : XK} {sp : Sp}
theorem x_v (h : Γ[i]? = some (some r)) : EvX Γ (tVar i) r := fun σ G en => by
  obtain ⟨v, h1, h2⟩ := en.get h
  exact ed_var h1 h2
theorem x_c : EvX Γ (tC v) (rV v) := fun σ G en => Ev.d ev_c
theorem x_is (h : EvX Γ te r) (e : r = r1) : EvX Γ te r1 := e ▸ h
theorem xn_is {ss : List Rp} (h : EvNX Γ te rs) (e : rs = ss) : EvNX Γ te ss := e ▸ h
theorem t_is {c d : Bool} (h : EvTX Γ t c) (e : c = d) : EvTX Γ t d := e ▸ h
theorem EvNX.d (h : EvNX Γ te rs) : EvX Γ te (rL K rs) := fun σ G en => EvN.d (h σ G en)
/-! arguments, calls -/
theorem xa_nil : EvAX Γ tNil [] := fun σ G en => ead_nil
theorem xa_cons {tr : TA} (h : EvX Γ te r) (hr : EvAX Γ tr rs) : EvAX Γ (tCons te tr) (r :: rs) := fun σ G en => ead_cons (h σ G en) (hr σ G en)
theorem x_call {ta : TA} (h : EvAX Γ ta rs) (hs : ∀ vs G, RA G vs rs → SpD sp vs G r) : EvX Γ (tCall sp [] E ta) r := fun σ G en => ed_call (h σ G en) fun vs G2 _ ra => hs vs G2 ra
theorem xn_call {ta : TA} {ss : List Rp} (h : EvAX Γ ta rs) (hs : ∀ vs G, RA G vs rs → SpN sp vs G ss) : EvNX Γ (tCall sp [] E ta) ss := fun σ G en => en_call (h σ G en) fun vs G2 _ ra => hs vs G2 ra
/-! ints -/
theorem x_I0 {g : Int → Int → V} (ha : EvX Γ ta (rI a)) (hb : EvX Γ tb (rI b)) : EvX Γ (tOp (rI0 g) ta tb) (rV (g a b)) := fun σ G en => Ev.d (ev_op (EvD.ev (ha σ G en)) (EvD.ev (hb σ G en)) rv_I0)
theorem x_I {c : Int → Int → Prop} {g : Int → Int → V} (ha : EvX Γ ta (rI a)) (hb : EvX Γ tb (rI b)) (hc : c a b) : EvX Γ (tOp (L2.rI c g) ta tb) (rV (g a b)) := fun σ G en => Ev.d (ev_op (EvD.ev (ha σ G en)) (EvD.ev (hb σ G en)) (rv_I hc))
theorem x_addN (ha : EvX Γ ta (nI m)) (hb : EvX Γ tb (nI n)) : EvX Γ (tOp (rI0 fun i j => .int (i + j)) ta tb) (nI (m + n)) := x_is (x_I0 ha hb) (by show rI _ = rI _; congr 1)
theorem x_subN (ha : EvX Γ ta (nI m)) (hb : EvX Γ tb (nI n)) (h : n ≤ m) : EvX Γ (tOp (rI0 fun i j => .int (i - j)) ta tb) (nI (m - n)) := x_is (x_I0 ha hb) (by show rI _ = rI _; congr 1; omega)
theorem x_int (h : EvX Γ te (rI a)) : EvX Γ (tCB (fun xs H Q => (∃ i, xs = [.int i] ∧ Q (.int i) H) ∨ ∃ k, xs = [.bl k] ∧ Q (.int (if k then 1 else 0)) H) (tCons te tNil)) (rI a) := fun σ G en => Ev.d (ev_int (EvD.ev (h σ G en)))
theorem x_cn (n : Nat) : EvX Γ (tC (.int (n : Int))) (nI n) := x_c
theorem x_and {c d : Bool} (h1 : EvX Γ ta (rB c)) (h2 : c = true → EvX Γ tb (rB d)) : EvX Γ (tAndV ta tb) (rB (c && d)) := fun σ G en => Ev.d (ev_andV (EvD.ev (h1 σ G en)) fun z => EvD.ev (h2 z σ G en))
theorem x_or {c d : Bool} (h1 : EvX Γ ta (rB c)) (h2 : c = false → EvX Γ tb (rB d)) : EvX Γ (tOrV ta tb) (rB (c || d)) := fun σ G en => Ev.d (ev_orV (EvD.ev (h1 σ G en)) fun z => EvD.ev (h2 z σ G en))
theorem x_not {c : Bool} (h1 : EvX Γ ta (rB c)) : EvX Γ (tNotV ta) (rB (!c)) := fun σ G en => Ev.d (ev_notV (EvD.ev (h1 σ G en)))
theorem x_eqV (ha : EvX Γ ta (rV x)) (hb : EvX Γ tb (rV y)) (hs : scal x y = true := by rfl) : EvX Γ (tOp rEq ta tb) (rB (decide (x = y))) := fun σ G en => Ev.d (ev_op (EvD.ev (ha σ G en)) (EvD.ev (hb σ G en)) (rv_eq hs))
theorem x_neV (ha : EvX Γ ta (rV x)) (hb : EvX Γ tb (rV y)) (hs : scal x y = true := by rfl) : EvX Γ (tOp rNe ta tb) (rB (!decide (x = y))) := fun σ G en => Ev.d (ev_op (EvD.ev (ha σ G en)) (EvD.ev (hb σ G en)) (rv_ne hs))
theorem dec_nat (p q : Nat) : decide (V.int (p : Int) = V.int (q : Int)) = decide (p = q) := by
  rw [Bool.eq_iff_iff, decide_eq_true_iff, decide_eq_true_iff]
  constructor
  · intro z; injection z with z; omega
  · intro z; rw [z]
theorem dec_int (p q : Int) : decide (V.int p = V.int q) = decide (p = q) := by
  rw [Bool.eq_iff_iff, decide_eq_true_iff, decide_eq_true_iff]
  constructor
  · intro z; injection z
  · intro z; rw [z]
theorem x_eqN (ha : EvX Γ ta (nI m)) (hb : EvX Γ tb (nI n)) : EvX Γ (tOp rEq ta tb) (rB (decide (m = n))) := x_is (x_eqV ha hb) (by rw [dec_nat])
theorem x_neN (ha : EvX Γ ta (nI m)) (hb : EvX Γ tb (nI n)) : EvX Γ (tOp rNe ta tb) (rB (!decide (m = n))) := x_is (x_neV ha hb) (by rw [dec_nat])
theorem x_bandN (ha : EvX Γ ta (nI m)) (hb : EvX Γ tb (nI n)) : EvX Γ (tOp (rI0 fun i j => .int (Builtin.bitAnd i j)) ta tb) (nI (m &&& n)) := x_is (x_I0 ha hb) (by rw [band_nat])
theorem x_borN (ha : EvX Γ ta (nI m)) (hb : EvX Γ tb (nI n)) : EvX Γ (tOp (rI0 fun i j => .int (Builtin.bitOr i j)) ta tb) (nI (m ||| n)) := x_is (x_I0 ha hb) (by rw [bor_nat])
theorem x_shrN (ha : EvX Γ ta (nI m)) (hb : EvX Γ tb (nI n)) : EvX Γ (tOp (L2.rI (fun _ j => 0 ≤ j) fun i j => .int (i / 2 ^ j.toNat)) ta tb) (nI (m / 2 ^ n)) := x_is (x_I ha hb (by omega)) (by rw [shr_nat])
/-! items, len -/
theorem x_ixT (ha : EvX Γ ta (rT K rs)) (hb : EvX Γ tb (nI n)) (hi : rs[n]? = some r) : EvX Γ (tOp (rIxT K) ta tb) r := fun σ G en => ed_ixT (ha σ G en) (EvD.ev (hb σ G en)) hi
theorem x_ixL (ha : EvX Γ ta (rL K rs)) (hb : EvX Γ tb (nI n)) (hi : rs[n]? = some r) : EvX Γ (tOp (rIxL K) ta tb) r := fun σ G en => ed_ixL (ha σ G en) (EvD.ev (hb σ G en)) hi
theorem get_map {α : Type} {ρ : α → Rp} {l : List α} {d : α} (h : n < l.length) : (l.map ρ)[n]? = some (ρ (l.getD n d)) := by
  rw [List.getElem?_map, List.getD_eq_getElem?_getD, List.getElem?_eq_getElem h]; rfl
theorem x_ixLm {α : Type} {ρ : α → Rp} {l : List α} (d : α) (ha : EvX Γ ta (rL K (l.map ρ))) (hb : EvX Γ tb (nI n)) (h : n < l.length) : EvX Γ (tOp (rIxL K) ta tb) (ρ (l.getD n d)) := x_ixL ha hb (get_map h)
theorem x_ixTm {α : Type} {ρ : α → Rp} {l : List α} (d : α) (ha : EvX Γ ta (rT K (l.map ρ))) (hb : EvX Γ tb (nI n)) (h : n < l.length) : EvX Γ (tOp (rIxT K) ta tb) (ρ (l.getD n d)) := x_ixT ha hb (get_map h)
theorem x_ixLn {l : List Nat} (ha : EvX Γ ta (rLn K l)) (hb : EvX Γ tb (nI n)) (h : n < l.length) : EvX Γ (tOp (rIxL K) ta tb) (nI (l.getD n 0)) := x_ixLm 0 ha hb h
theorem x_ixTn {l : List Nat} (ha : EvX Γ ta (rTn K l)) (hb : EvX Γ tb (nI n)) (h : n < l.length) : EvX Γ (tOp (rIxT K) ta tb) (nI (l.getD n 0)) := x_ixTm 0 ha hb h
/-- a row of the rows of masks -/
theorem x_ixB {l : List Nat} (ha : EvX Γ ta (rLL K (l.map bitsN))) (hb : EvX Γ tb (nI n)) (h : n < l.length) : EvX Γ (tOp (rIxL K) ta tb) (rLn K (bitsN (l.getD n 0))) := x_ixL ha hb (by
  rw [List.map_map, List.getElem?_map, List.getD_eq_getElem?_getD, List.getElem?_eq_getElem h]; rfl)
theorem x_lenL (h : EvX Γ te (rL K rs)) : EvX Γ (tCB (rLenS K) (tCons te tNil)) (nI rs.length) := fun σ G en => Ev.d (ev_lenL (h σ G en) rfl)
theorem x_lenT (h : EvX Γ te (rT K rs)) : EvX Γ (tCB (rLenS K) (tCons te tNil)) (nI rs.length) := fun σ G en => Ev.d (ev_lenT (h σ G en) rfl)
theorem x_lenLm {α : Type} {ρ : α → Rp} {l : List α} (h : EvX Γ te (rL K (l.map ρ))) : EvX Γ (tCB (rLenS K) (tCons te tNil)) (nI l.length) := x_is (x_lenL h) (by rw [List.length_map])
theorem x_lenTm {α : Type} {ρ : α → Rp} {l : List α} (h : EvX Γ te (rT K (l.map ρ))) : EvX Γ (tCB (rLenS K) (tCons te tNil)) (nI l.length) := x_is (x_lenT h) (by rw [List.length_map])
theorem x_lenLn {l : List Nat} (h : EvX Γ te (rLn K l)) : EvX Γ (tCB (rLenS K) (tCons te tNil)) (nI l.length) := x_lenLm h
theorem x_lenTn {l : List Nat} (h : EvX Γ te (rTn K l)) : EvX Γ (tCB (rLenS K) (tCons te tNil)) (nI l.length) := x_lenTm h
theorem x_lenLL {l : List (List Nat)} (h : EvX Γ te (rLL K l)) : EvX Γ (tCB (rLenS K) (tCons te tNil)) (nI l.length) := x_lenLm h
theorem x_lenB {l : List Nat} (h : EvX Γ te (rLL K (l.map bitsN))) : EvX Γ (tCB (rLenS K) (tCons te tNil)) (nI l.length) := x_is (x_lenLL h) (by rw [List.length_map])
theorem xn_list (h : EvX Γ te (rL K rs)) : EvNX Γ (tCB (rListS K) (tCons te tNil)) rs := fun σ G en => en_listL (h σ G en)
theorem xn_listT (h : EvX Γ te (rT K rs)) : EvNX Γ (tCB (rListS K) (tCons te tNil)) rs := fun σ G en => en_listT (h σ G en)
theorem xn_listRg (h : EvX Γ te (nI n)) (hn : n ≤ 1000000) : EvNX Γ (tLstRg (tRg1 te)) ((List.range n).map nI) := fun σ G en => en_listR (EvD.ev (h σ G en)) hn
theorem x_tupL (h : EvX Γ te (rL K rs)) : EvX Γ (tCB (rTupO K) (tCons te tNil)) (rT K rs) := fun σ G en => ed_tupL (h σ G en)
theorem x_tup {ta : TA} (h : EvAX Γ ta rs) (hl : rs.length ≤ 100000 := by decide) : EvX Γ (tTup ta) (rT K rs) := fun σ G en => ed_tup (h σ G en) hl
theorem xn_lst {ta : TA} (h : EvAX Γ ta rs) (hl : rs.length ≤ 100000 := by decide) : EvNX Γ (tLst ta) rs := fun σ G en => en_lst (h σ G en) hl
theorem x_lst {ta : TA} (h : EvAX Γ ta rs) (hl : rs.length ≤ 100000 := by decide) : EvX Γ (tLst ta) (rL K rs) := (xn_lst h hl).d
theorem x_pair (ha : EvX Γ ta (nI m)) (hb : EvX Γ tb (nI n)) : EvX Γ (tTup (tCons ta (tCons tb tNil))) (rP K (m, n)) := x_tup (xa_cons ha (xa_cons hb xa_nil)) (by show 2 ≤ 100000; decide)
theorem xn_cat {ss : List Rp} (ha : EvX Γ ta (rL K rs)) (hb : EvX Γ tb (rL K ss)) (hz : rs.length + ss.length ≤ 100000) : EvNX Γ (tOp rCat ta tb) (rs ++ ss) := fun σ G en => en_cat (ha σ G en) (hb σ G en) hz
theorem x_catm {α : Type} {ρ : α → Rp} {l l' : List α} (ha : EvX Γ ta (rL K (l.map ρ))) (hb : EvX Γ tb (rL K (l'.map ρ))) (hz : l.length + l'.length ≤ 100000) : EvX Γ (tOp rCat ta tb) (rL K ((l ++ l').map ρ)) := x_is (EvNX.d (K := K) (xn_cat (K := K) ha hb (by rw [List.length_map, List.length_map]; exact hz))) (by rw [List.map_append])
/-! comprehensions -/
theorem en_at {σ : L2.St} {G : Hp} (en : En σ G Γ) {vs : List Nat} (h : r.p v G) : En ((wipe σ vs).set j (some v)) G ((wipeC Γ vs).set j (some r)) := (en.wipe vs).set h j
theorem xn_lcL {α : Type} {vs : List Nat} (l : List α) (ρ : α → Rp) (f : α → Bool) (rr : α → Rp) (h : EvX Γ tl (rL K (l.map ρ))) (hz : l.length ≤ 40000) (ht : ∀ a, a ∈ l → EvTX ((wipeC Γ vs).set j (some (ρ a))) t (f a)) (he : ∀ a, a ∈ l → f a = true → EvX ((wipeC Γ vs).set j (some (ρ a))) te (rr a)) (hj : j ∈ vs := by simp) : EvNX Γ (tLc (iList K tl) (gName j) t te vs) ((l.filter f).map rr) := fun σ G en =>
  en_lcL l ρ f rr (h σ G en) hz (wipe_turn σ hj) (fun a x G1 ha e hx => ht a ha _ G1 (en_at (en.mono e) hx)) (fun a x G1 ha hf e hx => he a ha hf _ G1 (en_at (en.mono e) hx))
theorem xn_lcT {α : Type} {vs : List Nat} (l : List α) (ρ : α → Rp) (f : α → Bool) (rr : α → Rp) (h : EvX Γ tl (rT K (l.map ρ))) (hz : l.length ≤ 40000) (ht : ∀ a, a ∈ l → EvTX ((wipeC Γ vs).set j (some (ρ a))) t (f a)) (he : ∀ a, a ∈ l → f a = true → EvX ((wipeC Γ vs).set j (some (ρ a))) te (rr a)) (hj : j ∈ vs := by simp) : EvNX Γ (tLc (iTup K tl) (gName j) t te vs) ((l.filter f).map rr) := fun σ G en =>
  en_lcT l ρ f rr (h σ G en) hz (wipe_turn σ hj) (fun a x G1 ha e hx => ht a ha _ G1 (en_at (en.mono e) hx)) (fun a x G1 ha hf e hx => he a ha hf _ G1 (en_at (en.mono e) hx))
theorem xn_lcR {vs : List Nat} (n : Nat) (f : Nat → Bool) (rr : Nat → Rp) (h : EvX Γ ta (nI n)) (hz : n ≤ 40000) (ht : ∀ a, a < n → EvTX ((wipeC Γ vs).set j (some (nI a))) t (f a)) (he : ∀ a, a < n → f a = true → EvX ((wipeC Γ vs).set j (some (nI a))) te (rr a)) (hj : j ∈ vs := by simp) : EvNX Γ (tLc (iRng1 (tCons ta tNil)) (gName j) t te vs) (((List.range n).filter f).map rr) := fun σ G en =>
  en_lcR n f rr (ea_cons (EvD.ev (h σ G en)) ea_nil) hz (wipe_turn σ hj) (fun a G1 ha e => ht a ha _ G1 (en_at (r := nI a) (en.mono e) rfl)) (fun a G1 ha hf e => he a ha hf _ G1 (en_at (r := nI a) (en.mono e) rfl))
theorem t_yes : EvTX Γ tYes true := fun σ G en => yes_T rfl
theorem xn_lcL0 {α : Type} {vs : List Nat} (l : List α) (ρ : α → Rp) (rr : α → Rp) (h : EvX Γ tl (rL K (l.map ρ))) (hz : l.length ≤ 40000) (he : ∀ a, a ∈ l → EvX ((wipeC Γ vs).set j (some (ρ a))) te (rr a)) (hj : j ∈ vs := by simp) : EvNX Γ (tLc (iList K tl) (gName j) tYes te vs) (l.map rr) :=
  xn_is (xn_lcL l ρ (fun _ => true) rr h hz (fun _ _ => t_yes) (fun a ha _ => he a ha) hj) filter_yes
theorem xn_lcT0 {α : Type} {vs : List Nat} (l : List α) (ρ : α → Rp) (rr : α → Rp) (h : EvX Γ tl (rT K (l.map ρ))) (hz : l.length ≤ 40000) (he : ∀ a, a ∈ l → EvX ((wipeC Γ vs).set j (some (ρ a))) te (rr a)) (hj : j ∈ vs := by simp) : EvNX Γ (tLc (iTup K tl) (gName j) tYes te vs) (l.map rr) :=
  xn_is (xn_lcT l ρ (fun _ => true) rr h hz (fun _ _ => t_yes) (fun a ha _ => he a ha) hj) filter_yes
theorem xn_lcR0 {vs : List Nat} (n : Nat) (rr : Nat → Rp) (h : EvX Γ ta (nI n)) (hz : n ≤ 40000) (he : ∀ a, a < n → EvX ((wipeC Γ vs).set j (some (nI a))) te (rr a)) (hj : j ∈ vs := by simp) : EvNX Γ (tLc (iRng1 (tCons ta tNil)) (gName j) tYes te vs) ((List.range n).map rr) :=
  xn_is (xn_lcR n (fun _ => true) rr h hz (fun _ _ => t_yes) (fun a ha _ => he a ha) hj) filter_yes
/-! tests -/
theorem t_cmp {p : Int → Int → Bool} (ha : EvX Γ ta (rI a)) (hb : EvX Γ tb (rI b)) : EvTX Γ (tTest (tOp (rI0 fun i j => .bl (p i j)) ta tb)) (p a b) := fun σ G en => et_cmp (EvD.ev (ha σ G en)) (EvD.ev (hb σ G en))
theorem t_eq (ha : EvX Γ ta (rV x)) (hb : EvX Γ tb (rV y)) (hs : scal x y = true := by rfl) : EvTX Γ (tTest (tOp rEq ta tb)) (decide (x = y)) := fun σ G en => et_eq (EvD.ev (ha σ G en)) (EvD.ev (hb σ G en)) hs
theorem t_ne (ha : EvX Γ ta (rV x)) (hb : EvX Γ tb (rV y)) (hs : scal x y = true := by rfl) : EvTX Γ (tTest (tOp rNe ta tb)) (!decide (x = y)) := fun σ G en => et_ne (EvD.ev (ha σ G en)) (EvD.ev (hb σ G en)) hs
theorem t_eqN (ha : EvX Γ ta (nI m)) (hb : EvX Γ tb (nI n)) : EvTX Γ (tTest (tOp rEq ta tb)) (decide (m = n)) := dec_nat m n ▸ t_eq ha hb
theorem t_neN (ha : EvX Γ ta (nI m)) (hb : EvX Γ tb (nI n)) : EvTX Γ (tTest (tOp rNe ta tb)) (!decide (m = n)) := dec_nat m n ▸ t_ne ha hb
theorem t_eqI (ha : EvX Γ ta (rI a)) (hb : EvX Γ tb (rI b)) : EvTX Γ (tTest (tOp rEq ta tb)) (decide (a = b)) := dec_int a b ▸ t_eq ha hb
theorem t_neI (ha : EvX Γ ta (rI a)) (hb : EvX Γ tb (rI b)) : EvTX Γ (tTest (tOp rNe ta tb)) (!decide (a = b)) := dec_int a b ▸ t_ne ha hb
theorem t_and {c d : Bool} (h1 : EvTX Γ t c) (h2 : c = true → EvTX Γ u d) : EvTX Γ (tAnd t u) (c && d) := fun σ G en => et_and (h1 σ G en) fun z => h2 z σ G en
theorem t_or {c d : Bool} (h1 : EvTX Γ t c) (h2 : c = false → EvTX Γ u d) : EvTX Γ (tOr t u) (c || d) := fun σ G en => et_or (h1 σ G en) fun z => h2 z σ G en
theorem t_not {c : Bool} (h1 : EvTX Γ t c) : EvTX Γ (tNot t) (!c) := fun σ G en => et_not (h1 σ G en)
theorem t_B {c : Bool} (h : EvX Γ te (rB c)) : EvTX Γ (tB te) c := fun σ G en => et_B (EvD.ev (h σ G en))
theorem t_T {c : Bool} (h : EvX Γ te (rB c)) : EvTX Γ (tTest te) c := fun σ G en => et_test (EvD.ev (h σ G en))
theorem EvTX.eqn {x y : Nat} {h : EvTX Γ t (decide (V.int (x : Int) = V.int (y : Int)))} : EvTX Γ t (decide (x = y)) := t_is h (by
  rw [Bool.eq_iff_iff, decide_eq_true_iff, decide_eq_true_iff]
  constructor
  · intro z; injection z with z; omega
  · intro z; rw [z])
/-! isinstance and == of data -/
theorem x_isInt (h : EvX Γ te (rI a)) : EvX Γ (tCB (rIsi K) (tCons te (tCons (tC (.ty "int")) tNil))) (rB true) := fun σ G en => Ev.d (is_int (EvD.ev (h σ G en)))
theorem x_isList (h : EvX Γ te (rL K rs)) : EvX Γ (tCB (rIsi K) (tCons te (tCons (tC (.ty "list")) tNil))) (rB true) := fun σ G en => Ev.d (is_list (h σ G en))
theorem x_isTup (h : EvX Γ te (rT K rs)) : EvX Γ (tCB (rIsi K) (tCons te (tCons (tC (.ty "tuple")) tNil))) (rB true) := fun σ G en => Ev.d (is_tup (h σ G en))
theorem x_isTab {m : List Nat} (c : IsC K C) (h : EvX Γ te (rTab K C m)) : EvX Γ (tCB (rIsi K) (tCons te (tCons (tC (.ref C)) tNil))) (rB true) := fun σ G en => Ev.d (is_tab c (h σ G en))
theorem x_eqD {d1 d2 : PyData} (ha : EvX Γ ta r1) (hb : EvX Γ tb r2) (a1 : AsD K r1 d1) (a2 : AsD K r2 d2) (s1 : SeqAt.shaped d1 = true) (s2 : SeqAt.shaped d2 = true) : EvX Γ (tOp (rEqD K) ta tb) (rB (PyData.eqv d1 d2)) := fun σ G en => Ev.d (ev_eqD (ha σ G en) (hb σ G en) a1 a2 s1 s2)
theorem x_neD {d1 d2 : PyData} (ha : EvX Γ ta r1) (hb : EvX Γ tb r2) (a1 : AsD K r1 d1) (a2 : AsD K r2 d2) (s1 : SeqAt.shaped d1 = true) (s2 : SeqAt.shaped d2 = true) : EvX Γ (tOp (rNeD K) ta tb) (rB (!PyData.eqv d1 d2)) := fun σ G en => Ev.d (ev_neD (ha σ G en) (hb σ G en) a1 a2 s1 s2)
theorem x_neLn {l m : List Nat} (ha : EvX Γ ta (rLn K l)) (hb : EvX Γ tb (rLn K m)) : EvX Γ (tOp (rNeD K) ta tb) (rB (!decide (l = m))) := x_is (x_neD ha hb (asd_ln l) (asd_ln m) ((sh_ln l).ok (by decide)) ((sh_ln m).ok (by decide))) (by rw [eqv_ln])
theorem x_eqLn {l m : List Nat} (ha : EvX Γ ta (rLn K l)) (hb : EvX Γ tb (rLn K m)) : EvX Γ (tOp (rEqD K) ta tb) (rB (decide (l = m))) := x_is (x_eqD ha hb (asd_ln l) (asd_ln m) ((sh_ln l).ok (by decide)) ((sh_ln m).ok (by decide))) (by rw [eqv_ln])
theorem x_eqTn {l m : List Nat} (ha : EvX Γ ta (rTn K l)) (hb : EvX Γ tb (rTn K m)) : EvX Γ (tOp (rEqD K) ta tb) (rB (decide (l = m))) := x_is (x_eqD ha hb (asd_tn l) (asd_tn m) ((sh_tn l).ok (by decide)) ((sh_tn m).ok (by decide))) (by rw [eqv_tn])
theorem x_neTn {l m : List Nat} (ha : EvX Γ ta (rTn K l)) (hb : EvX Γ tb (rTn K m)) : EvX Γ (tOp (rNeD K) ta tb) (rB (!decide (l = m))) := x_is (x_neD ha hb (asd_tn l) (asd_tn m) ((sh_tn l).ok (by decide)) ((sh_tn m).ok (by decide))) (by rw [eqv_tn])
theorem x_neLL {l m : List (List Nat)} (ha : EvX Γ ta (rLL K l)) (hb : EvX Γ tb (rLL K m)) : EvX Γ (tOp (rNeD K) ta tb) (rB (!decide (l = m))) := x_is (x_neD ha hb (asd_ll l) (asd_ll m) ((sh_ll l).ok (by decide)) ((sh_ll m).ok (by decide))) (by rw [eqv_ll])
theorem x_eqLL {l m : List (List Nat)} (ha : EvX Γ ta (rLL K l)) (hb : EvX Γ tb (rLL K m)) : EvX Γ (tOp (rEqD K) ta tb) (rB (decide (l = m))) := x_is (x_eqD ha hb (asd_ll l) (asd_ll m) ((sh_ll l).ok (by decide)) ((sh_ll m).ok (by decide))) (by rw [eqv_ll])
theorem x_neP {l m : Nat × Nat} (ha : EvX Γ ta (rP K l)) (hb : EvX Γ tb (rP K m)) : EvX Γ (tOp (rNeD K) ta tb) (rB (!decide (l = m))) := x_is (x_neD ha hb (asd_p l) (asd_p m) ((sh_p l).ok (by decide)) ((sh_p m).ok (by decide))) (by rw [eqv_p])
theorem x_inLn {l : List Nat} (ha : EvX Γ ta (nI n)) (hb : EvX Γ tb (rLn K l)) : EvX Γ (tOp (rIn K false) ta tb) (rB (decide (n ∈ l))) := fun σ G en => Ev.d (ev_inLn (neg := false) (EvD.ev (ha σ G en)) (hb σ G en))
theorem x_niLn {l : List Nat} (ha : EvX Γ ta (nI n)) (hb : EvX Γ tb (rLn K l)) : EvX Γ (tOp (rIn K true) ta tb) (rB (!decide (n ∈ l))) := fun σ G en => Ev.d (ev_inLn (neg := true) (EvD.ev (ha σ G en)) (hb σ G en))
theorem x_inP {p : Nat × Nat} {l : List (Nat × Nat)} (ha : EvX Γ ta (rP K p)) (hb : EvX Γ tb (rL K (l.map (rP K)))) : EvX Γ (tOp (rInD K) ta tb) (rB (decide (p ∈ l))) := fun σ G en => Ev.d (ev_inP (ha σ G en) (hb σ G en))
theorem x_niP {p : Nat × Nat} {l : List (Nat × Nat)} (ha : EvX Γ ta (rP K p)) (hb : EvX Γ tb (rL K (l.map (rP K)))) : EvX Γ (tOp (rNotInD K) ta tb) (rB (!decide (p ∈ l))) := fun σ G en => Ev.d (ev_notInP (ha σ G en) (hb σ G en))
theorem x_isB {c d : Bool} (ha : EvX Γ ta (rB c)) (hb : EvX Γ tb (rB d)) : EvX Γ (tOp rIsB ta tb) (rB (decide (c = d))) := fun σ G en => Ev.d (ev_isB (EvD.ev (ha σ G en)) (EvD.ev (hb σ G en)))
theorem x_isNB {c d : Bool} (ha : EvX Γ ta (rB c)) (hb : EvX Γ tb (rB d)) : EvX Γ (tOp rNotB ta tb) (rB (!decide (c = d))) := fun σ G en => Ev.d (ev_isNB (EvD.ev (ha σ G en)) (EvD.ev (hb σ G en)))
/-! tables -/
theorem x_size {m : List Nat} (h : EvX Γ ta (rTab K C m)) (hc : Cls K C) (hn : NoAttr K C "size") : EvX Γ (tFld K ta "size") (nI m.length) := fun σ G en => Ev.d (ev_size (h σ G en) hc hn)
theorem x_masks {m : List Nat} (h : EvX Γ ta (rTab K C m)) (hc : Cls K C) (hn : NoAttr K C "masks") : EvX Γ (tFld K ta "masks") (rTn K m) := fun σ G en => ed_masks (h σ G en) hc hn
theorem x_cells {m : List Nat} (h : EvX Γ ta (rTab K C m)) (hc : Cls K C) (hn : NoAttr K C "cells") : EvX Γ (tFld K ta "cells") (rT K ((pairsN m).map (rP K))) := fun σ G en => ed_cells (h σ G en) hc hn
theorem x_tabRows {m : List Nat} (h : EvX Γ te (rLL K (m.map bitsN))) (w : Wf n m) (h1 : 1 ≤ n) (h6 : n ≤ 6) : EvX Γ (tMake C (spTab K C) [] E (tCons te tNil)) (rTab K C m) := fun σ G en => ed_tabRows (h σ G en) w h1 h6
theorem x_own2 {m m' : List Nat} (ha : EvX Γ ta (rTab K C m)) (hb : EvX Γ tb (rTab K C m')) (hs : ∀ x y G, (rTab K C m).p x G → (rTab K C m').p y G → SpD sp [x, y] G r) : EvX Γ (tOp (rOwn2 C sp E) ta tb) r := fun σ G en => ed_own2 (ha σ G en) (hb σ G en) fun x y G2 _ hx hy => hs x y G2 hx hy
theorem x_own1 {m : List Nat} (ha : EvX Γ ta (rTab K C m)) (hs : ∀ x G, (rTab K C m).p x G → SpD sp [x] G r) : EvX Γ (tUn (rOwn1 C sp E) ta) r := fun σ G en => ed_own1 (ha σ G en) fun x G2 _ hx => hs x G2 hx
theorem xn_meth {m : List Nat} {f : Str} (h : EvX Γ ta (rTab K C m)) (hf : (f == "size" || (f == "masks" || f == "cells")) = false) (hs : ∀ v G, (rTab K C m).p v G → SpN sp [v] G rs) : EvNX Γ (tMeth C f sp [] E ta tNil) rs := fun σ G en => en_meth (h σ G en) hf fun v G2 _ hv => hs v G2 hv
/-! draws -/
theorem e_take {k : Nat} {b : Addr} (hk : M[k]? = some (boxR K b)) (hv : Γ[i]? = some (some (rV (.ref b)))) (h : EvX Γ te (nI m)) (h0 : 0 < m) (h1 : m < 2 ^ 30) : EX Γ M (tCall (spT K) [] E (tCons (tVar i) (tCons te tNil))) (fun r M' => (∃ d, d < m ∧ r = nI d) ∧ M' = M) := EX.imp (EX.ofB (P := PN m) hk fun σ G en => by
  obtain ⟨v, hv1, hv2⟩ := en.get hv
  obtain rfl : v = V.ref b := hv2
  exact eb_take hv1 (EvD.ev (h σ G en)) h0 h1) fun r M' z => z
end
/-! ### from a def's promise to its walk -/
section
variable {W : WX} {Γ : Ctx} {t : TS} {r : Rp} {rs : List Rp} {G H : Hp} {σ : L2.St} {Q : VK} {K : PySem.W.Frag} {b : Addr}
theorem run_D (w : WP W Γ [] t { nx := fun _ _ => r = rV .non, rt := fun r' _ => r' = r }) (e : Ex G H) (en : En σ G Γ) (k : ∀ v G2 H2, Gr G H G2 H2 → r.p v G2 → Q v H2) : t { nx := fun _ H' => Q .non H', rt := Q } σ H :=
  w _ G H σ _ (Ok.nil e) en ⟨fun σ' G' H' Γ' M' o en' z => k _ G' H' o.to (by rw [z]; rfl), fun v G' H' r' M' o hv z => k v G' H' o.to (by rw [← z]; exact hv), fun _ _ _ _ _ _ _ z => z.elim, fun _ _ _ _ _ _ _ z => z.elim, fun _ _ _ _ _ _ _ _ _ _ _ z => z.elim⟩
/-- the answer a new list of our own -/
theorem run_N (w : WP W Γ [] t { nx := fun _ _ => False, rt := fun r' M' => ∃ p, r' = rV (.ref p) ∧ M' = [lstR p rs] }) (e : Ex G H) (en : En σ G Γ) (k : ∀ p ws G2 H2, Gr G H G2 H2 → H p = none → G2 p = none → H2 p = some (.lst ws) → RA G2 ws rs → Q (.ref p) H2) : t { nx := fun _ H' => Q .non H', rt := Q } σ H :=
  w _ G H σ _ (Ok.nil e) en ⟨fun _ _ _ _ _ _ _ z => z.elim, fun v G' H' r' M' o hv z => by
    obtain ⟨p, rfl, rfl⟩ := z
    obtain rfl : v = V.ref p := hv
    obtain ⟨ws, h1, h2⟩ := o.m (lstR p rs) List.mem_cons_self
    have hp : H p = none := by
      rcases o.f (lstR p rs) List.mem_cons_self p (List.mem_singleton.mpr rfl) with q | q
      · exact q
      · exact nomatch q.2
    exact k p ws G' H' o.to hp (o.z p (List.mem_cons_self)) h1 h2, fun _ _ _ _ _ _ _ z => z.elim, fun _ _ _ _ _ _ _ z => z.elim, fun _ _ _ _ _ _ _ _ _ _ _ z => z.elim⟩
theorem run_B {P : Rp → Prop} (w : WP W Γ [boxR K b] t { nx := fun _ _ => False, rt := fun r' M' => P r' ∧ M' = [boxR K b] }) (e : Ex G H) (gb : G b = none) (hb : Box K G H b) (en : En σ G Γ) (k : ∀ r v G2 H2, P r → GrB b G H G2 H2 → Box K G2 H2 b → r.p v G2 → Q v H2) : t { nx := fun _ H' => Q .non H', rt := Q } σ H :=
  w _ G H σ _ (Ok.box e gb hb) en ⟨fun _ _ _ _ _ _ _ z => z.elim, fun v G' H' r' M' o hv z => by
    obtain ⟨p, rfl⟩ := z
    exact k r' v G' H' p o.toB (o.m (boxR K b) List.mem_cons_self) hv, fun _ _ _ _ _ _ _ z => z.elim, fun _ _ _ _ _ _ _ z => z.elim, fun _ _ _ _ _ _ _ _ _ _ _ z => z.elim⟩
/-- the law itself: it gives True -/
theorem run_law {a : Addr} {ns : List Int} {i : Nat} {E : XK} (hS : SqL K H a (ns.map V.int)) (hl : ns.length ≤ 63) (hv : σ[0]? = some (some (.ref a))) (hσ : σ.length = n + 1) (hi : i < n + 1) (k : ∀ H', Q (.bl true) H')
    (w : ∀ b, WP W ((List.replicate (n + 1) none).set i (some (rV (.ref b)))) [boxR K b] t { nx := fun _ _ => False, rt := fun r _ => r = rB true }) : tSeq (tAsg (tCall (spBoxMk K) [] E (tCons (tVar 0) tNil)) (gName i)) t { nx := fun _ H' => Q .non H', rt := Q } σ H := by
  refine sq (s_box hv hS hl fun b G2 H2 e1 e2 hb gb hbox => ?_)
  refine w b _ G2 H2 _ _ (Ok.box e2 gb hbox) ?_ ⟨fun _ _ _ _ _ _ _ z => z.elim, fun v G' H' r' M' o hv z => ?_, fun _ _ _ _ _ _ _ z => z.elim, fun _ _ _ _ _ _ _ z => z.elim, fun _ _ _ _ _ _ _ _ _ _ _ z => z.elim⟩
  · have e0 : ∀ (σ : L2.St) (n : Nat), σ.length = n → En σ G2 (List.replicate n none) := fun σ => by
      induction σ with
      | nil => intro n h; subst h; exact .nil
      | cons a s ih =>
        intro n h
        cases n with
        | zero => cases h
        | succ n => exact .cons (fun x hx => nomatch hx) (ih n (by simpa using h))
    exact En.set (r := rV (.ref b)) rfl i (e0 σ _ hσ)
  · subst z
    obtain rfl : v = V.bl true := hv
    exact k H'
end
end Mu

namespace Mu
open PySem PySem.Spec PyProof.Rows L2 Evl
/-! ### a method that says super() -/
structure FunS (K : PySem.W.Frag) (x qual : Str) (params : Arguments) (body : List Stmt) (scope : Scope) (file : Str) (D : Addr) (f : Addr) (fd : FuncData) (cda cc : Addr) : Prop where
  fn : ∃ (oc : Value) (od : Option Addr) (kV doc pm : Value) (an : Option Addr) (ct : Value) (osl : Array (Option Value)), fd = PySem.W.ksFn x qual params body scope .none kV doc pm an (.ref cda) ct cc ∧ K.lookup f = some ⟨oc, od, .func fd, osl⟩
  co : PySem.W.codeIn K (.ref cda) qual = true
  cell : ∃ (cl : Value) (cld : Option Addr) (csl : Array (Option Value)), K.lookup cc = some ⟨cl, cld, .cell (some (.ref D)), csl⟩
  code : ∃ (ccl : Value) (cdd : Option Addr) (vs : Array Value) (ccs : Array (Option Value)) (tf : Tok), K.lookup cda = some ⟨ccl, cdd, .fields vs, ccs⟩ ∧ vs[2]? = some (.str file tf)
  cls : (PySem.W.clsIn K D).isSome = true
  kp : PySem.W.keepIn K (.ref f) = true
  op : PySem.W.nsIn K cStatics "thirdparty.any" = some none
structure FsScope (N ps : List Str) (sc : Scope) : Prop where
  kind : sc.kind = .function
  co : sc.isCoroutine = false
  gen : sc.isGenerator = false
  nd : N.Nodup
  pre : N.take ps.length = ps
  par : ∀ x ∈ ps, sc.names.lookup x = some .local
  nocell : ∀ y ∈ sc.names, y.2 ≠ .cell
  free : ∀ y ∈ sc.names, y.2 = .free → y.1 = ("__class__" : Str)
  sup : sc.names.lookup ("super" : Str) = some .globalImplicit
  cls : sc.names.lookup ("__class__" : Str) = some .free
/-- the program's facts that super() asks -/
structure PF (P : Program) (file : Str) : Prop where
  file : ((P.main.file : Str) == file) = true
  top : (P.main.scope.names.lookup ("super" : Str)).isSome = false
abbrev cxS (CX : CXT) (P : Program) (w : World) (K : PySem.W.Frag) (mg : Str → Option Value) (base : Heap) (N : List Str) (qual : Str) (scope : Scope) (f cda cc : Addr) (A : Around) (outer : List Env) (s : Shared) (H : Hp) (E : XK) : Cx where
  prog := P
  w := w
  K := K
  mg := mg
  base := base
  A := A.deeper (PySem.W.ksEnv qual scope s.heap.objs.size f (.ref cda) cc)
  N := N
  s_0 := s
  H_0 := H
  env := PySem.W.ksEnv qual scope s.heap.objs.size f (.ref cda) cc
  outer := outer
  stack := PySem.W.ksEnv qual scope s.heap.objs.size f (.ref cda) cc :: outer
  ex := []
  calm := true
  fn := fun _ => false
  pn := []
  xe := fun e s' => wpAny (model P w) (A.deeper (PySem.W.ksEnv qual scope s.heap.objs.size f (.ref cda) cc)) (leaving (PySem.W.ksEnv qual scope s.heap.objs.size f (.ref cda) cc) e) (fun _ s'' => CX outer H s E e s'') (fun e' s'' => CX outer H s E e' s'') s'
theorem lookup_mem {l : List (Str × Value)} (hn : (l.map (·.1)).Nodup) {x : Str} {u : Value} (h : (x, u) ∈ l) : l.lookup x = some u := by
  induction l with
  | nil => cases h
  | cons p l ih =>
    obtain ⟨y, v⟩ := p
    obtain ⟨h1, h2⟩ := List.nodup_cons.mp (show (y :: l.map (·.1)).Nodup from hn)
    rcases List.mem_cons.mp h with q | q
    · cases q
      simp [List.lookup]
    · have ne : x ≠ y := fun e => h1 (List.mem_map.mpr ⟨(x, u), q, e⟩)
      rw [List.lookup_cons, show (x == y) = false by simpa using ne]
      exact ih h2 q
theorem zip_fst : ∀ {ps : List Str} {us : List Value}, ps.length = us.length → (ps.zip us).map (·.1) = ps
  | [], [], _ => rfl
  | _ :: _, [], h => by cases h
  | [], _ :: _, h => by cases h
  | p :: ps, u :: us, h => by
    show p :: (ps.zip us).map (·.1) = p :: ps
    rw [zip_fst (by simpa using h)]
theorem lookup_rev_zip {ps : List Str} {us : List Value} {i : Nat} {x : Str} {u : Value} (hn : ps.Nodup) (hl : ps.length = us.length) (h1 : ps[i]? = some x) (h2 : us[i]? = some u) : (ps.zip us).reverse.lookup x = some u := by
  refine lookup_mem (by rw [List.map_reverse, zip_fst hl]; exact List.pairwise_reverse.mpr (hn.imp fun h => Ne.symm h)) (List.mem_reverse.mpr ?_)
  refine List.mem_of_getElem? (i := i) ?_
  rw [List.getElem?_zip_eq_some]
  exact ⟨h1, h2⟩
theorem inv_startS {CX : CXT} {P : Program} {w : World} {K : PySem.W.Frag} {mg : Str → Option Value} {base : Heap} {N ps : List Str} {x qual : Str} {params : Arguments} {body : List Stmt} {scope : Scope} {file : Str} {D f : Addr} {fd : FuncData} {cda cc : Addr} {A : Around} {outer : List Env} {s : Shared} {h₀ : Heap} {H : Hp} {E : XK} {us : List Value} {vs : List V}
    (F : FunS K x qual params body scope file D f fd cda cc) (S : FsScope N ps scope) (hd : A.handled = none) (e0 : Env0 P w K mg base A outer s H) (hl : vs.length = ps.length) (r : Vals vs us)
    (hns : h₀.Ns s.heap.objs.size (fun y => (ps.zip us).reverse.lookup y)) (keep : ∀ b o, s.heap.get? b = some o → h₀.get? b = some o) (tk : Nat) :
    Inv (cxS CX P w K mg base N qual scope f cda cc A outer s H E) [] (L2.start N vs) H { s with heap := h₀, toks := tk } := by
  have hpl : ps.length ≤ N.length := by have := congrArg List.length S.pre; rw [List.length_take] at this; omega
  obtain ⟨cl, cld, csl, hcell⟩ := F.cell
  have hccb := e0.mod.kin _ _ hcell
  have kfr : ∀ x c, List.lookup x [(("__class__" : Str), cc)] = some c → x = ("__class__" : Str) ∧ c = cc := fun x c h => by
    rw [List.lookup_cons] at h
    cases q : x == ("__class__" : Str) with
    | true => rw [q] at h; exact ⟨by simpa using q, (Option.some.inj h).symm⟩
    | false => rw [q] at h; cases h
  have noA : ∀ b : Addr, b ∉ (cxS CX P w K mg base N qual scope f cda cc A outer s H E).ex := fun b z => absurd (show b ∈ ([] : List Addr) from z) (by simp)
  refine ⟨⟨e0.mod, S.kind, rfl, rfl, Nat.le_refl _, fun y z c h1 h2 => ?_, fun y hy => ?_, fun y c h _ => ?_, fun _ => hd, Around.frames_deeper e0.frames, .inr ⟨rfl, rfl⟩, fun b z => absurd z (noA b), e0.bs, e0.bsz, fun b _ _ => noA b, fun b z => absurd z (noA b), e0.funs, e0.frf⟩,
    rfl, e0.bare, Un.kept keep, ⟨_, hns, fun i y v h1 h2 h3 => ?_⟩, fun y c h => ?_, e0.hok.fresh (Nat.le_refl _), fun y c h => ?_, fun p hp => absurd (show p ∈ ([] : List (Addr × Obj)) from hp) (by simp), e0.hok.kept keep, ?_⟩
  · exact (kfr y c h1).1.trans (kfr z c h2).1.symm
  · have hy : scope.names.lookup y = some .cell ∨ scope.names.lookup y = some .free := hy
    rcases hy with hy | hy
    · exact absurd rfl (S.nocell _ (PySem.mem_of_lookup hy))
    · have e := S.free _ (PySem.mem_of_lookup hy) rfl
      have e' : y = ("__class__" : Str) := e
      subst e'
      exact ⟨cc, by show List.lookup _ [(("__class__" : Str), cc)] = _; simp [List.lookup]⟩
  · exact Bool.noConfusion h
  · have hi : i < vs.length := by
      unfold L2.start at h2
      by_cases hi : i < vs.length
      · exact hi
      · rw [List.getElem?_append_right (by simpa using hi)] at h2
        rw [List.getElem?_replicate] at h2
        split at h2 <;> cases h2
    have ha : vs[i]? = some v := by
      unfold L2.start at h2
      rw [List.getElem?_append_left (by simpa using hi), List.getElem?_map] at h2
      cases e : vs[i]? with
      | none => rw [e] at h2; cases h2
      | some a => rw [e] at h2; cases h2; rfl
    obtain ⟨u, hu, rv⟩ := r.get ha
    have hp : ps[i]? = some y := by
      rw [← S.pre, List.getElem?_take_of_lt (by omega)]; exact h1
    have ndP : ps.Nodup := by rw [← S.pre]; exact S.nd.sublist (List.take_sublist _ _)
    exact ⟨u, rv, .inl ⟨S.par y (List.mem_of_getElem? hp), lookup_rev_zip ndP (by rw [← hl, r.length]) hp hu⟩⟩
  · obtain ⟨_, rfl⟩ := kfr y c h
    exact ⟨_, _, keep _ _ ((e0.bs _ _ hccb).1), rfl⟩
  · obtain ⟨_, rfl⟩ := kfr y c h
    exact (e0.bs _ _ hccb).2
  · unfold L2.start
    show _ = N.length
    rw [List.length_append, List.length_map, List.length_replicate]
    omega
/-! ### judgements at a known activation -/
structure PSA (X : Cx) (fb st : List Stmt) (t : TS) : Prop where
  run : ∀ (pins : List (Addr × Obj)) (s : Shared) (σ : L2.St) (H : Hp) (D : Ends), Inv X pins σ H s → t D σ H → _root_.PySem.wpAt (model X.prog X.w) X.A (.func fb X.env) (execs st X.env) (SP X pins D) X.xe s
structure PEA (X : Cx) (fb : List Stmt) (e : Expr) (t : TE) : Prop where
  run : ∀ (pins : List (Addr × Obj)) (s : Shared) (σ : L2.St) (H : Hp) (Q : VK), Inv X pins σ H s → t σ H Q → _root_.PySem.wpAt (model X.prog X.w) X.A (.func fb X.env) (eval e X.env) (EP X pins σ Q) X.xe s
section
variable {X : Cx} {fb rest : List Stmt} {e : Expr} {te : TE} {u : TS} {pos : Pos}
theorem psa_expr (h1 : PEA X fb e te) (h2 : PSs X rest u) (hi : interactive X.env = false := by rfl) (hs : swapsWith e none pos.line X.env = pure false := by rfl) : PSA X fb (.Expr e pos :: rest) (tSeq (tDrop te) u) := by
  refine ⟨fun pins s σ H D I h => ?_⟩
  refine ks_wpAt_execs_cons (ks_wpAt_Expr_any (_root_.PySem.wpAt_mono (h1.run pins s σ H _ I h) (fun v s' ⟨x, H', I', _, q⟩ => ?_) fun _ _ z => z) hi hs)
  exact _root_.PySem.wpAt_of_wpAny (h2.run pins s' σ H' D I' q)
theorem psa_ret (h1 : PEA X fb e te) : PSA X fb [.Return (some e) pos] (tRet te) := by
  refine ⟨fun pins s σ H D I h => ?_⟩
  refine ks_wpAt_execs_cons (ks_wpAt_Return_some (_root_.PySem.wpAt_mono (h1.run pins s σ H _ I h) (fun v s' ⟨x, H', I', r, q⟩ => ?_) fun _ _ z => z))
  exact ⟨x, σ, H', I', r, q⟩
theorem psa_set {x : Str} {p' : Pos} {i : Nat} (hN : X.N.Nodup) (hi : X.N[i]? = some x) (hl : X.env.scope.names.lookup x = some .local) (h1 : PEA X fb e te) (h2 : PSs X rest u) (hs : swapsWith e (some (.Name x p')) pos.line X.env = pure false := by rfl) : PSA X fb (.Assign [.Name x p'] e pos :: rest) (tSeq (tAsg te (gName i)) u) := by
  refine ⟨fun pins s σ H D I h => ?_⟩
  refine ks_wpAt_execs_cons (ks_wpAt_Assign_Name (_root_.PySem.wpAt_mono (h1.run pins s σ H _ I h) (fun v s' ⟨y, H', I', r, q⟩ => ?_) fun _ _ z => z) hs)
  refine store_ok (v := y) I' hN hi (.inl hl) r (fun s2 I2 => ?_) (.inr hl)
  exact _root_.PySem.wpAt_of_wpAny (h2.run pins s2 _ H' D I2 q)
end
theorem FunS.ok {P : Program} {w : World} {K : PySem.W.Frag} {mg : Str → Option Value} {base : Heap} {x qual : Str} {params : Arguments} {body : List Stmt} {scope : Scope} {file : Str} {D f : Addr} {fd : FuncData} {cda cc : Addr} {CX : CXT} {N ps : List Str} {k : Nat} {sp : Sp}
    (F : FunS K x qual params body scope file D f fd cda cc) (S : FsScope N ps scope) (len : ∀ vs H Q E, sp vs H Q E → vs.length = ps.length)
    (hbody : ∀ (A : Around) (outer : List Env) (s : Shared) (H : Hp) (vs : List V) (Q : VK) (E : XK), Room k (A.deeper (PySem.W.ksEnv qual scope s.heap.objs.size f (.ref cda) cc)) → sp vs H Q E →
      ∃ t, PSA (cxS CX P w K mg base N qual scope f cda cc A outer s H E) body body t ∧ t { nx := fun _ H' => Q .non H', rt := Q } (L2.start N vs) H) : FnOk P w K mg base CX (k + 1) f fd ps sp := by
  obtain ⟨oc, od, kV, doc, pm, an, ct, osl, rfl, lk⟩ := F.fn
  refine ⟨len, fun A outer s H args us vs Q E hr e0 hb r hsp => ?_⟩
  have hl := len _ _ _ _ hsp
  have KX : K.In s.heap := e0.mod.kin.keeps fun b o e => (e0.bs b o e).1
  have lim : s.heap.NoLimit := e0.mod.nolimit.keeps fun b o e => (e0.bs b o e).1
  refine ks_codeAny_call_defAt (fd := PySem.W.ksFn x qual params body scope .none kV doc pm an (.ref cda) ct cc) (body := body) (binds := ps.zip us) hr.depth (KX _ _ lk) rfl lim (PySem.W.codeRec_of KX F.co) rfl hb S.nocell (fun y hy => S.par y.1 (List.of_mem_zip hy).1) (fun h₀ hns keep => ?_) S.co S.gen S.kind
  obtain ⟨t, ht, hq⟩ := hbody A outer s H vs Q E (hr.deeper _) hsp
  have I := inv_startS (CX := CX) (E := E) F S hr.hd e0 hl r hns keep (s.toks + (ps.zip us).length)
  refine _root_.PySem.wpAt_mono (ht.run [] _ (L2.start N vs) H _ I hq) (fun fl s' hs => ?_) fun e s' hs => hs
  have fin : ∀ {σ' : L2.St} {H' : Hp} {v : V} {u : Value}, Inv (cxS CX P w K mg base N qual scope f cda cc A outer s H E) [] σ' H' s' → RelV v u → Q v H' → CE outer P w H s Q u s' :=
    fun {σ' H' v u} J rv q => ⟨v, H', J.os, J.bare, J.base, J.hok, rv, q⟩
  cases fl with
  | ret u =>
    obtain ⟨v, σ', H', J, rv, q⟩ := hs
    exact fin J rv q
  | next =>
    obtain ⟨σ', H', J, q⟩ := hs
    exact fin (v := V.non) (u := Value.none) J rfl q
  | brk =>
    obtain ⟨_, _, _, q⟩ := hs
    exact False.elim q
  | cont =>
    obtain ⟨_, _, _, q⟩ := hs
    exact False.elim q
/-! ### super() -/
section
variable {CX : CXT} {P : Program} {w : World} {K : PySem.W.Frag} {mg : Str → Option Value} {base : Heap} {N ps : List Str} {x qual : Str} {params : Arguments} {body : List Stmt} {scope : Scope} {file : Str} {D f : Addr} {fd : FuncData} {cda cc : Addr} {A : Around} {outer : List Env} {s0 : Shared} {H0 : Hp} {E0 : XK}
  {pins : List (Addr × Obj)} {σ : L2.St} {H : Hp} {s : Shared} {fb : List Stmt} {E : Value → Shared → Prop}
theorem sup_base {p0 p1 : Pos} {attr : Str} {whole : Sem Value} {a C : Addr} {ox : Obj} {Q : Value → Shared → Prop} {self : Str} (F : FunS K x qual params body scope file D f fd cda cc) (S : FsScope N ps scope) (pf : PF P file) (hm : mg "super" = none)
    (hp : (params.posonlyargs ++ params.args).head?.map (·.arg) = some self) (hN : N[0]? = some self) (hself : scope.names.lookup self = some .local) (hat : (attr == ("__class__" : Str)) = false)
    (I : Inv (cxS CX P w K mg base N qual scope f cda cc A outer s0 H0 E0) pins σ H s) (hσ : σ[0]? = some (some (.ref a))) (hx : s.heap.get? a = some ox) (hxc : ox.cls = .ref C) (hnc : ∀ c, ox.data ≠ .cls c) (hsub : PySem.W.mroIn K C (.ref D) = some true)
    (h : ∀ h', h'.get? s.heap.objs.size = some { cls := .type "super", dict := none, data := .fields #[.ref D, .ref a, .ref C], slots := #[] } → (∀ y o, s.heap.get? y = some o → h'.get? y = some o) → Q (.ref s.heap.objs.size) { s with heap := h' }) :
    _root_.PySem.wpAt (model P w) (A.deeper (PySem.W.ksEnv qual scope s0.heap.objs.size f (.ref cda) cc)) (.func fb (PySem.W.ksEnv qual scope s0.heap.objs.size f (.ref cda) cc)) (attributeBase (.Call (.Name "super" p0) [] [] p1) attr (PySem.W.ksEnv qual scope s0.heap.objs.size f (.ref cda) cc) whole) Q E s := by
  obtain ⟨oc, od, kV, doc, pm, an, ct, osl, rfl, lk⟩ := F.fn
  obtain ⟨cl, cld, csl, hcell⟩ := F.cell
  obtain ⟨ccl, cdd, vs, ccs, tf, hcode, hvs⟩ := F.code
  obtain ⟨cdD, hD⟩ := Option.isSome_iff_exists.mp F.cls
  have kin : K.In s.heap := I.kIn
  obtain ⟨ar, har, hara⟩ : ∃ ar, (params.posonlyargs ++ params.args).head? = some ar ∧ ar.arg = self := by
    cases q : (params.posonlyargs ++ params.args).head? with
    | none => rw [q] at hp; cases hp
    | some ar => rw [q] at hp; exact ⟨ar, rfl, Option.some.inj hp⟩
  obtain ⟨oD, hD1, hD2⟩ : ∃ oD, s.heap.get? D = some oD ∧ oD.data = .cls cdD := by
    unfold PySem.W.clsIn at hD
    split at hD
    · rename_i c d cd' sl ho
      cases hD
      exact ⟨_, kin _ _ ho, rfl⟩
    · cases hD
  refine ks_wpAt_super_base (env := PySem.W.ksEnv qual scope s0.heap.objs.size f (.ref cda) cc) S.sup S.cls hat rfl (kin _ _ lk) rfl har rfl (kin _ _ hcode) rfl hvs pf.file pf.top ?_
  obtain ⟨mb, b1, b2⟩ := I.mod.blt
  refine PySem.W.ks_loadName_global S.kind S.sup (Calls.loadGlobal_builtin (env := PySem.W.ksEnv qual scope s0.heap.objs.size f (.ref cda) cc) (I.mod.glob.keeps I.bk) hm (b1.keeps I.bk) ((b2 _ (by decide +kernel)).trans (show bootBuiltins ("super" : Str) = some (.type "super") by decide +kernel)) ⟨rfl, ?_⟩)
  refine wpAny_loadName_free S.kind S.cls (show List.lookup ("__class__" : Str) [(("__class__" : Str), cc)] = some cc by simp [List.lookup]) ⟨_, kin _ _ hcell, rfl⟩ ?_
  obtain ⟨m, hns, hlk⟩ := I.loc
  obtain ⟨u, ru, look⟩ := hlk 0 self (.ref a) hN hσ (.inl hself)
  obtain rfl : u = Value.ref a := ru
  have hmv : m ar.arg = some (.ref a) := by
    rw [hara]
    rcases look with ⟨_, q⟩ | ⟨q | q, _⟩
    · exact q
    · have q' : scope.names.lookup self = some .cell := q
      rw [hself] at q'; cases q'
    · have q' : scope.names.lookup self = some .free := q
      rw [hself] at q'; cases q'
  refine wpAny_loadName_local S.kind (show scope.names.lookup ar.arg = some .local by rw [hara]; exact hself) hns hmv ?_
  obtain ⟨hh, g, d, t, os⟩ := s
  refine ks_wpAny_isType_cls hD1 hD2 ⟨rfl, ?_⟩
  exact ks_wpAny_call_super hD1 hD2 hx hxc hnc (PySem.W.looks_mroIn kin hsub) fun h' e k => h h' e k
/-- an object that is not tracked, held through a reading -/
theorem Inv.pin1 {X : Cx} {a : Addr} {o : Obj} (I : Inv X pins σ H s) (ho : s.heap.get? a = some o) (hn : X.base.get? a = none ∨ True) (hH : H a = none) (hL : a ≠ X.env.locals) (hf : a ∉ X.fs) (hc : ∀ v, o.data ≠ .cell v) : Inv X ((a, o) :: pins) σ H s :=
  I.pins_of fun p hp => by
    rcases List.mem_cons.mp hp with q | q
    · rw [q]; exact ⟨ho, hH, hL, hf, hc⟩
    · exact I.pin p (List.mem_append_right _ q)
/-- super().__init__(..) of an exception over ValueError -/
def tVeS (K : PySem.W.Frag) (D : Addr) (ta : TA) : TE := fun σ H Q => ∃ a C, σ[0]? = some (some (.ref a)) ∧ H a = some (exo a C none) ∧ OexC K C ∧ PySem.W.mroIn K C (.ref D) = some true ∧ PySem.W.ks_superIn K C D "__init__" = some (some (.builtin "ValueError.__init__")) ∧ PySem.W.subIn K (.ref C) (.type "ValueError") = some true ∧
  ta σ H fun vs H1 => vs.length ≤ 1000 ∧ H1 a = some (exo a C none) ∧ Q .non H1
theorem pea_supInit {p0 p1 p2 pos : Pos} {e : Expr} {es : List Expr} {ta : TA} {self : Str} {pl : Sem Bool} (F : FunS K x qual params body scope file D f fd cda cc) (S : FsScope N ps scope) (pf : PF P file) (hm : mg "super" = none)
    (hp : (params.posonlyargs ++ params.args).head?.map (·.arg) = some self) (hN : N[0]? = some self) (hself : scope.names.lookup self = some .local)
    (ha : PA (cxS CX P w K mg base N qual scope f cda cc A outer s0 H0 E0) (e :: es) ta)
    (hev : eval (.Call (.Attribute (.Call (.Name "super" p0) [] [] p1) "__init__" p2) (e :: es) [] pos) (PySem.W.ksEnv qual scope s0.heap.objs.size f (.ref cda) cc) = (do
      let ov ← attributeBase (.Call (.Name "super" p0) [] [] p1) "__init__" (PySem.W.ksEnv qual scope s0.heap.objs.size f (.ref cda) cc) (eval (.Call (.Name "super" p0) [] [] p1) (PySem.W.ksEnv qual scope s0.heap.objs.size f (.ref cda) cc))
      standAt p2.atName
      let (fn1, first) ← holding [ov] (getMethod ov "__init__" pl)
      callWith pos fn1 first (backTo pos (starEach (e :: es) (PySem.W.ksEnv qual scope s0.heap.objs.size f (.ref cda) cc))) []) := by rfl)
    (he : starEach (e :: es) (PySem.W.ksEnv qual scope s0.heap.objs.size f (.ref cda) cc) = (false, eval e (PySem.W.ksEnv qual scope s0.heap.objs.size f (.ref cda) cc)) :: starEach es (PySem.W.ksEnv qual scope s0.heap.objs.size f (.ref cda) cc) := by rfl) (hpl : (backTo pos (starEach es (PySem.W.ksEnv qual scope s0.heap.objs.size f (.ref cda) cc))).any (·.1) = false := by rfl) :
    PEA (cxS CX P w K mg base N qual scope f cda cc A outer s0 H0 E0) fb (.Call (.Attribute (.Call (.Name "super" p0) [] [] p1) "__init__" p2) (e :: es) [] pos) (tVeS K D ta) := by
  refine ⟨fun pins s σ H Q I h => ?_⟩
  obtain ⟨a, C, hσ, hH, T, hsub, hsup, hVE, h⟩ := h
  obtain ⟨t1, hx⟩ := exo_at I.hok hH
  refine ks_wpAt_MethodCall (sup_base F S pf hm hp hN hself (by decide +kernel) I hσ hx rfl (fun c z => nomatch z) hsub fun h' hso k => ?_) hev
  have I1 := I.kept (h' := h') (t' := s.toks) k
  have kin : K.In h' := I1.kIn
  have hx' := k _ _ hx
  obtain ⟨nm, qn, Nn, bs, bm, sn, sub, ab, col, dd, k0, k1, k2, k3, k5, hC, hbm⟩ := T.cls
  have hcl : PySem.W.clsIn K C = some { name := nm, bases := bs, mro := .ref C :: bm, ns := Nn, qualname := qn, hasDict := true, slotNames := sn, subclasses := sub, abstract := ab, collection := col, hasDel := false } := by unfold PySem.W.clsIn; rw [hC] <;> rfl
  have ins : PySem.W.InstAt h' a { cls := .ref C, dict := none, data := .fields #[.ref t1, .none, .none, .none, .bool false, .none] } C none := ⟨hx', rfl, rfl, trivial⟩
  have hI : PySem.W.Looks (model P w) h' (isInstance (.ref a) (.type "ValueError")) true := ins.type.andThen (PySem.W.looks_subIn kin hVE)
  unfold PySem.W.ks_superIn at hsup
  rw [hcl] at hsup
  obtain ⟨hh, g, d, tk, os⟩ := s
  have I1' : Inv (cxS CX P w K mg base N qual scope f cda cc A outer s0 H0 E0) pins σ H ⟨h', g, d, tk, os⟩ := I1
  refine PySem.W.kxs_getMethod PySem.W.kxs_ValueError hso (PySem.W.looks_opaque kin F.op) (l₀ := .ref C :: bm) ?_ rfl kin hsup hI (PySem.W.ks_ne kin ins hcl) (by decide +kernel) ?_
  · exact fun A Q E s k q => wpAny_bind ((PySem.W.looks_clsIn kin hcl) A _ E s k (wpAny_pure q))
  have I2 := I1'.kept (h' := h'.push (PySem.W.kxs_mw "ValueError.__init__" a)) (t' := tk + 1) fun b o z => Heap.get?_push_of_some _ z
  have hq0 : (h'.push (PySem.W.kxs_mw "ValueError.__init__" a)).get? h'.objs.size = some (PySem.W.kxs_mw "ValueError.__init__" a) := Heap.get?_push_at rfl rfl
  have I3 := Inv.pin1 I2 hq0 (.inr trivial) (I1'.hok.fresh (Nat.le_refl _)) (Ne.symm (Nat.ne_of_lt I1'.lt)) (I1'.nofs (Nat.le_refl _)) (fun v z => nomatch z)
  show wpAny _ _ (callWith pos (.ref h'.objs.size) [] (backTo pos (starEach (e :: es) _)) []) _ _ _
  rw [he]
  refine PySem.W.kxs_callWith (i := "ValueError.__init__") (x := a) (by show (false || (backTo pos (starEach es _)).any (·.1)) = false; rw [hpl]; rfl) ?_
  have ra := ha.run pos _ _ σ H _ I3 h
  rw [he] at ra
  refine PySem.Calls.evalArgs_plain (thn ra fun us s3 ⟨vs, H3, J, rv, hl, hH3, q⟩ => ?_)
  obtain ⟨hu, _⟩ := J.pin (h'.objs.size, PySem.W.kxs_mw "ValueError.__init__" a) (List.mem_append_right _ List.mem_cons_self)
  refine ⟨hu, ?_⟩
  obtain ⟨t3, hx3⟩ := exo_at J.hok hH3
  have kin3 : K.In s3.heap := J.kIn
  obtain ⟨hp3, g3, d3, t3', os3⟩ := s3
  show wpAny _ _ (call (.ref h'.objs.size) us) _ _ _
  refine wpAny_call (codeAny_of_tree ?_)
  show wpAny _ _ (callAny (.ref h'.objs.size) ⟨us, []⟩) _ _ _
  simp only [callAny]
  refine wpAny_bind (wpAny_load hu ?_)
  simp only [PySem.W.kxs_mw, show (Value.type "method-wrapper" == Value.type "method" || Value.type "method-wrapper" == Value.type "builtin_function_or_method" || Value.type "method-wrapper" == Value.type "method-wrapper") = true by decide, if_true]
  refine PySem.W.KFB.if_so (by decide) ?_
  refine wpAny_bind (PySem.W.check_bound_init PySem.F.excBase_ValueError.toExcCallFacts (kin3 _ _ hC) hx3 rfl ?_)
  refine wpAny_bind (wpAny_pure (wpAny_pure ?_))
  refine ⟨plainId_quiet PySem.F.excBase_ValueError.init.plain _, codeAny_builtin PySem.F.excBase_ValueError.initEntry ?_⟩
  have hus : us.length ≤ sizeLine := by
    rw [← Paired.length rv, sizeLine_eq]
    omega
  refine PySem.W.exc_init_tree (cls := .ref C) (t0 := t3) (dv := none) (c2 := .none) (c3 := .none) (b4 := .bool false) hx3 hus fun h4 k4 e4 _ => ?_
  have W := J.write (t' := t3') (x := a) (e := a) (o := exo a C none) (by rw [hH3]; exact True.intro) (.inl rfl) k4 ⟨_, e4⟩ (exo_ok e4)
  have eu : upd H3 a (exo a C none) = H3 := by
    funext b
    by_cases hb : b = a
    · rw [hb, upd_same, hH3]
    · rw [upd_ne hb]
  rw [eu] at W
  exact ⟨.non, H3, W.pins_of fun p hp => W.pin p (List.mem_append_right _ (List.mem_cons_of_mem _ hp)), rfl, q⟩
end
end Mu

namespace Mu
open PySem PySem.Spec PyProof.Rows L2 He
/-! ### the head's facts, with the methods that say super() -/
theorem cellB_ok {K : PySem.W.Frag} {cc D : Addr} (h : cellB K cc D = true) : ∃ (cl : Value) (cld : Option Addr) (csl : Array (Option Value)), K.lookup cc = some ⟨cl, cld, .cell (some (.ref D)), csl⟩ := by
  unfold cellB at h
  split at h
  · rename_i a b d sl e
    have z : d = D := by simpa using h
    subst z
    exact ⟨_, _, _, e⟩
  · cases h
theorem fileB_ok {K : PySem.W.Frag} {cda : Addr} {file : Str} (h : fileB K cda file = true) : ∃ (ccl : Value) (cdd : Option Addr) (vs : Array Value) (ccs : Array (Option Value)) (tf : Tok), K.lookup cda = some ⟨ccl, cdd, .fields vs, ccs⟩ ∧ vs[2]? = some (.str file tf) := by
  unfold fileB at h
  split at h
  · rename_i a b vs sl e
    split at h
    · rename_i x t e2
      have z : x = file := by simpa using h
      subst z
      exact ⟨_, _, _, _, _, e, e2⟩
    · cases h
  · cases h
theorem DefS.funS {K : PySem.W.Frag} {d : DefS} (e : fnS K d.at_ = d.val) (c : d.ok K = true) : ∃ fd cda cc, FunS K d.name d.qual d.params d.body d.scope d.file (ga K d.cls) (fAd K d.at_) fd cda cc := by
  obtain ⟨kp, c1⟩ := ba c
  obtain ⟨cl, c1⟩ := ba c1
  obtain ⟨op, c2⟩ := ba c1
  unfold fnS at e
  cases q : K.lookup (fAd K d.at_) with
  | none =>
    rw [q] at c2
    cases c2
  | some o =>
    obtain ⟨oc, od, dt, osl⟩ := o
    rw [q] at c2 e
    cases dt with
    | func fd =>
      obtain ⟨n1, n2, n3, n4, n5, n6, n7, n8, n9, n10, n11, n12, n13, n14, n15⟩ := fd
      have e2 : (some (n1, n2, n3, n4, n5, n6, n7.map (fun z => z.1), n15) : FnS) = some (d.name, d.qual, d.params, FuncBody.stmts d.body, d.scope, mainGlobals, [("__class__" : Str)], builtinsNs) := e
      simp only [Option.some.injEq, Prod.mk.injEq] at e2
      obtain ⟨h1, h2, h3, h4, h5, h6, h7, h8⟩ := e2
      have c4 : (decide (n8 = Value.none) && supB K d.qual (ga K d.cls) d.file n7 n13) = true := c2
      obtain ⟨k8, c3⟩ := ba c4
      have e8 := of_decide_eq_true k8
      subst e8
      unfold supB at c3
      split at c3
      · rename_i y cc cda
        obtain ⟨k1, k2⟩ := ba c3
        obtain ⟨k3, k4⟩ := ba k2
        have hy : y = ("__class__" : Str) := by simpa using h7
        subst h1 h2 h3 h4 h5 h6 h8 hy
        exact ⟨_, cda, cc, ⟨oc, od, n9, n10, n11, n12, n14, osl, rfl, q⟩, k1, cellB_ok k3, fileB_ok k4, cl, kp, of_decide_eq_true op⟩
      · cases c3
    | _ => cases c2
section
variable {fa : List Fa} {ex : List FactB} {fn : List DefD} {sn : List DefS} {K : PySem.W.Frag}
theorem SaysS.all (c : SaysS fa ex fn sn K) : ((((fa.all fun f => f.ok K) && ex.all fun f => f K) && fn.all fun d => d.ok K) && sn.all fun d => d.ok K) = true := congrArg (fun z : AlS => z.1) c
theorem SaysS.fact (c : SaysS fa ex fn sn K) (i : Nat) {f : Fa} (h : fa[i]? = some f := by rfl) : f.ok K = true := List.all_eq_true.mp (ba (ba (ba c.all).1).1).1 f (List.mem_of_getElem? h)
theorem SaysS.exf (c : SaysS fa ex fn sn K) (i : Nat) {f : FactB} (h : ex[i]? = some f := by rfl) : f K = true := List.all_eq_true.mp (ba (ba (ba c.all).1).1).2 f (List.mem_of_getElem? h)
theorem SaysS.def_ (c : SaysS fa ex fn sn K) (i : Nat) {d : DefD} (h : fn[i]? = some d := by rfl) : ∃ fd, FunD K d.name d.qual d.params d.body d.scope (d.dvs K) (d.kws K) (fAd K d.at_) fd := by
  have c2 := (ba (ba c.all).1).2
  have e : fn.map (fun d => fnW K d.at_) = fn.map DefD.val := congrArg (fun z : AlS => z.2.1) c
  have e2 : (fn.map fun d => fnW K d.at_)[i]? = (fn.map DefD.val)[i]? := by rw [e]
  rw [List.getElem?_map, List.getElem?_map, h] at e2
  exact DefD.funD (Option.some.inj e2) (List.all_eq_true.mp c2 d (List.mem_of_getElem? h))
theorem SaysS.sup_ (c : SaysS fa ex fn sn K) (i : Nat) {d : DefS} (h : sn[i]? = some d := by rfl) : ∃ fd cda cc, FunS K d.name d.qual d.params d.body d.scope d.file (ga K d.cls) (fAd K d.at_) fd cda cc := by
  have c2 := (ba c.all).2
  have e : sn.map (fun d => fnS K d.at_) = sn.map DefS.val := congrArg (fun z : AlS => z.2.2) c
  have e2 : (sn.map fun d => fnS K d.at_)[i]? = (sn.map DefS.val)[i]? := by rw [e]
  rw [List.getElem?_map, List.getElem?_map, h] at e2
  exact DefS.funS (Option.some.inj e2) (List.all_eq_true.mp c2 d (List.mem_of_getElem? h))
end
end Mu

namespace Mu
open PySem PySem.Spec PyProof.Rows L2 Evl
/-! ### within an except suite: the end of a list's iterator, comprehensions over lists -/
section
variable {prog : Program} {w : World} {A : Around} {E : Value → Shared → Prop} {s : Shared}
theorem next_list_hot {it l x1 : Addr} {i : Nat} {items : Array Value} {Q : Option Value → Shared → Prop} (hot : HotX.HotAt A x1 s.heap) (hne : x1 ≠ it) (hit : s.heap.IsListIter it l i) (hl : s.heap.IsList l items) (hx : items[i]? = none)
    (hQ : ∀ h', (∀ b o, b ≠ it → s.heap.get? b = some o → h'.get? b = some o) → Q none { s with heap := h' }) : wpAny (model prog w) A (pyNext (.ref it)) Q E s := by
  obtain ⟨o, ho, hc, hd⟩ := id hit
  obtain ⟨ol, hol, _, nl, hdl⟩ := hl
  obtain ⟨hh, o1, vs1, h1, d1, c1⟩ := hot
  unfold pyNext
  refine wpAny_bind (wpAny_attempt (wpAny_callSpecial?_slot (name := Str.ofString "__next__") hit.typeIs slot_listiter_next (wpAny_call_entry slot_listiter_next hit.typeIs entry_listiter_next ?_ (args_listiter_next _))))
  show wpAny _ _ (field (.ref it) 0 >>= _) _ _ s
  refine wpAny_bind (wpAny_field ho hd (x := .ref l) rfl ?_)
  show wpAny _ _ (if (Value.ref l == Value.none) = true then _ else _) _ _ s
  rw [if_neg (show ¬ ((Value.ref l == Value.none) = true) by simp)]
  show wpAny _ _ (field (.ref it) 1 >>= _) _ _ s
  refine wpAny_bind (wpAny_field ho hd (x := .int i 0) rfl ?_)
  show wpAny _ _ (seqItems? (.ref l) >>= _) _ _ s
  refine wpAny_bind (wpAny_seqItems hol hdl ?_)
  simp only [Int.toNat_natCast, hx]
  refine wpAny_bind (wpAny_rule (wpAny_bind (wpAny_setField ho hd (by simp) ?_)))
  show wpAny _ _ (newExc (.type "StopIteration") [] >>= _) _ _ _
  refine wpAny_bind ?_
  simp only [newExc, newTuple]
  refine wpAny_bind (wpAny_newObj_type ?_ (by size_fits))
  refine wpAny_bind (m := firstArgMember _ _) (wpAny_of_eq (a := Value.none) (by first | rfl | (simp only [firstArgMember]; rfl)) ?_)
  refine wpAny_newObj_type ?_ (by size_fits)
  have h1' : ∀ {k : Obj → Obj}, (s.heap.update it k).get? x1 = some o1 := (Heap.get?_update_other _ _ (Ne.symm hne)).trans h1
  refine HotX.raiseNew_hot ⟨hh, o1, vs1, Heap.get?_push_of_some _ (Heap.get?_push_of_some _ h1'), d1, c1⟩ (Nat.ne_of_lt (Heap.lt_size (Heap.get?_push_of_some _ h1'))) (Heap.get?_push_size _ rfl) rfl (by first | (simp; done) | (simp; omega) | (simp only [Array.size_append]; simp; omega)) ?_
  refine wpAny_bind (wpAny_isInstance (T := "StopIteration") (b := true) ⟨_, Heap.get?_update_self _ (Heap.get?_push_size _ rfl) rfl, rfl⟩ isSubtype_stop ?_)
  refine wpAny_pure (hQ _ fun b u hb e => ?_)
  have e2 : ∀ {k : Obj → Obj}, (s.heap.update it k).get? b = some u := (Heap.get?_update_other _ _ (Ne.symm hb)).trans e
  rw [Heap.get?_update_other _ _ (Nat.ne_of_gt (Heap.lt_size (Heap.get?_push_of_some _ e2)))]
  exact Heap.get?_push_of_some _ (Heap.get?_push_of_some _ e2)
end
section
variable {X : Cx}
theorem pe_lcH {elt tg iter : Expr} {ifs : List Expr} {scope : Scope} {own : List (Str × Nat)} {pos : Pos} {tl : TE} {g : TG} {tt : TT} {te : TE} (hot : L2H.HotC X) (hN : X.N.Nodup) (hl : PE X iter tl) (ok : BlkOk X.N X.env.scope scope own)
    (hg : ∀ (s : Shared) (H : Hp) (C : Addr) (cl : List (Str × Addr)) (fp : List Addr), PG (X.blk s H scope (compEnvC scope cl C X.env) fp) tg g) (ht : ∀ (s : Shared) (H : Hp) (C : Addr) (cl : List (Str × Addr)) (fp : List Addr), PTs (X.blk s H scope (compEnvC scope cl C X.env) fp) ifs tt)
    (he : ∀ (s : Shared) (H : Hp) (C : Addr) (cl : List (Str × Addr)) (fp : List Addr), PE (X.blk s H scope (compEnvC scope cl C X.env) fp) elt te) (hs : ∀ x, foldedSetIterable iter X.env x = pure x := by intro _; rfl) :
    PE X (.ListComp elt [⟨tg, iter, ifs, 0⟩] scope pos) (tLc (iList X.K tl) g tt te (own.map (·.2))) := by
  obtain ⟨pp, ⟨hh, v1, e1, c1⟩, hpp⟩ := hot
  refine ⟨fun pins s σ H Q I h => ?_⟩
  rw [eval_ListComp]
  have hfree : ∀ y ∈ scope.names, y.2 = .free → ∃ c, X.env.cells.lookup y.1 = some c := fun y hy e => (ok.free y hy e).elim (fun k => I.ok.has _ (.inl k)) (fun k => I.ok.has _ (.inr k))
  refine wpAny_comprehension_free rfl hs (closure_ok hfree) ok.kind (fun y hy e => by rw [ok.uniq y hy, e]) (thn (hl.run pins s σ H _ I h) fun xv s1 hx => ?_)
  obtain ⟨x, H2, I1, rx, a, ex, ⟨xs, hq⟩, q⟩ := hx
  subst ex
  cases rx
  obtain ⟨its, rv, p1, hz⟩ := I1.list hq
  refine wpAny_pyIter_list p1.isList ?_
  -- the iterator at n, the new list behind it
  obtain ⟨n, hn⟩ : ∃ n, n = s1.heap.objs.size := ⟨_, rfl⟩
  have T := turn_list (P := X.prog) (w := X.w) (K := X.K) (tg := tg) a n
  have I2 := I1.kept (t' := s1.toks) (h' := s1.heap.push { cls := .type "list_iterator", data := .fields #[.ref a, .int 0 0] }) fun b o e => Heap.get?_push_of_some _ e
  have st2 : (s1.heap.push { cls := .type "list_iterator", data := .fields #[.ref a, .int 0 0] }).IsListIter n a 0 := ⟨_, by rw [hn]; exact Heap.get?_push_size _ rfl, rfl, rfl⟩
  have f2 : FpOk X pins H2 n := I1.fpOk (Nat.le_of_eq hn.symm) (I1.hok.fresh (Nat.le_of_eq hn.symm))
  rw [← hn]
  obtain ⟨s2, hs2⟩ : ∃ s2 : Shared, s2 = { s1 with heap := s1.heap.push { cls := .type "list_iterator", data := .fields #[.ref a, .int 0 0] } } := ⟨_, rfl⟩
  replace I2 : Inv X pins σ H2 s2 := by rw [hs2]; exact I2
  replace st2 : s2.heap.IsListIter n a 0 := by rw [hs2]; exact st2
  rw [← hs2]
  have lt2 : n < s2.heap.objs.size := by
    obtain ⟨o, e, _⟩ := st2
    exact Heap.lt_size e
  refine wpAny_newObj_type (newEnv_comp ?_) (by show 0 ≤ sizeLine; decide)
  obtain ⟨D, hD⟩ : ∃ D, D = s2.heap.objs.size := ⟨_, rfl⟩
  rw [← hD]
  have hDn : H2 D = none := I2.hok.fresh (Nat.le_of_eq hD.symm)
  obtain ⟨W, ⟨m0, w0⟩, turn⟩ := q D hDn
  have I3 := I2.laid (a := D) (o := .lst []) (t' := s2.toks) (h' := s2.heap.push { cls := .type "list", data := .seq ([] : List Value).toArray }) (fun b o e => Heap.get?_push_of_some _ e) (Nat.le_of_eq hD.symm) ⟨Nat.zero_le _, [], 0, .nil, by rw [hD]; exact Heap.get?_push_size _ rfl⟩
  have st3 : (s2.heap.push { cls := .type "list", data := .seq ([] : List Value).toArray }).IsListIter n a 0 := T.keep _ _ _ st2 fun b _ o e => Heap.get?_push_of_some _ e
  have f3 : ∀ b ∈ [n], FpOk X pins (upd H2 D (.lst [])) b ∧ b < (s2.heap.push { cls := .type "list", data := .seq ([] : List Value).toArray }).objs.size := fun b hb => by
    have e : b = n := by simpa using hb
    subst e
    refine ⟨⟨?_, f2.2⟩, by rw [Heap.size_push]; omega⟩
    rw [upd_ne (by rw [hD]; exact Nat.ne_of_lt lt2)]
    exact f2.1
  obtain ⟨s3, hs3⟩ : ∃ s3 : Shared, s3 = { s2 with heap := s2.heap.push { cls := .type "list", data := .seq ([] : List Value).toArray } } := ⟨_, rfl⟩
  replace I3 : Inv X pins σ (upd H2 D (.lst [])) s3 := by rw [hs3]; exact I3
  replace st3 : s3.heap.IsListIter n a 0 := by rw [hs3]; exact st3
  replace f3 : ∀ b ∈ [n], FpOk X pins (upd H2 D (.lst [])) b ∧ b < s3.heap.objs.size := by rw [hs3]; exact f3
  rw [← hs3]
  obtain ⟨H3, hH3⟩ : ∃ H3, H3 = upd H2 D (.lst []) := ⟨_, rfl⟩
  rw [← hH3] at I3 f3 w0
  have I4 := block_start I3 ok hN f3
  have pg := hg s3 H3 s3.heap.objs.size (cellsFrom (s3.heap.objs.size + 1) scope.names (cloFrom X.env.cells scope.names [])) [n]
  have pt := ht s3 H3 s3.heap.objs.size (cellsFrom (s3.heap.objs.size + 1) scope.names (cloFrom X.env.cells scope.names [])) [n]
  have pe := he s3 H3 s3.heap.objs.size (cellsFrom (s3.heap.objs.size + 1) scope.names (cloFrom X.env.cells scope.names [])) [n]
  have pin3 := I3.pin pp (List.mem_append_left _ hpp)
  have pne : pp.1 ≠ n := (f3 n (by simp)).1.2.2.2.2.2 pp (List.mem_append_left _ hpp)
  have pstk : pp.1 ∉ frs X.stack := fun hm => (List.mem_cons.mp (I3.stkSub pp.1 hm)).elim pin3.2.2.1 pin3.2.2.2.1
  obtain ⟨ce, hce⟩ : ∃ ce, ce = compEnvC scope (cellsFrom (s3.heap.objs.size + 1) scope.names (cloFrom X.env.cells scope.names [])) s3.heap.objs.size X.env := ⟨_, rfl⟩
  have cL : ce.locals = s3.heap.objs.size := by rw [hce]; rfl
  show codeAny _ _ (.compStart (.ListComp elt [⟨tg, iter, ifs, 0⟩] scope pos) 0 (.ref n) (.ref D) (compEnvC scope (cellsFrom (s3.heap.objs.size + 1) scope.names (cloFrom X.env.cells scope.names [])) s3.heap.objs.size X.env)) (compPost (model X.prog X.w) X.A X.xe none (EP X pins σ Q) (.ref D) s3.heap.objs.size) { s3 with heap := pushCells (s3.heap.push { cls := .type "dict", data := .dict #[] }) scope.names }
  rw [← hce] at I4 pg pt pe ⊢
  obtain ⟨s4, hs4⟩ : ∃ s4 : Shared, s4 = { s3 with heap := pushCells (s3.heap.push { cls := .type "dict", data := .dict #[] }) scope.names } := ⟨_, rfl⟩
  rw [← hs4] at I4 ⊢
  have st4 : s4.heap.IsListIter n a 0 := T.keep _ _ _ st3 fun b _ o e => by rw [hs4]; exact pushCells_keeps _ _ _ _ (Heap.get?_push_of_some _ e)
  have stat : ∀ {σ' : L2.St} {H' : Hp} {s' : Shared}, Inv (X.blk s3 H3 scope ce [n]) [] σ' H' s' → H' n = none → FpOk (X.blk s3 H3 scope ce [n]) [] H' n := fun {σ' H' s'} I' z =>
    ⟨z, (I'.ok.exf n (by simp)).1, I'.ok.exfs n (by simp), .inl (by simp), fun x c e => (I'.ok.exf n (by simp)).2 x c e, fun p hp => nomatch hp⟩
  have loop : codeAny (model X.prog X.w) X.A (.compLoop (.ListComp elt [⟨tg, iter, ifs, 0⟩] scope pos) 0 (.ref n) (.ref D) ce) (compPost (model X.prog X.w) X.A X.xe none (EP X pins σ Q) (.ref D) s3.heap.objs.size) s4 := by
    refine compLoop_any (fun m s' => ∃ i H', Inv (X.blk s3 H3 scope ce [n]) [] (wipe σ (own.map (·.2))) H' s' ∧ s'.heap.IsListIter n a i ∧ H' n = none ∧ W i m H') ?_ m0 ⟨0, H3, I4, st4, (f3 n (by simp)).1.1, w0⟩
    rintro m s5 ⟨i, H5, I5, st5, n5, w5⟩
    obtain ⟨f0, f1, f2', f3', f4, f5⟩ := stat I5 n5
    rcases turn i m H5 w5 with ⟨stop, qq⟩ | ⟨go, Nx, hNx, step⟩
    · obtain ⟨ys, hq5, hx5⟩ := stop
      obtain ⟨its5, rv5, p5, _⟩ := I5.list hq5
      have hl5 := rv5.length
      have hot5 : HotX.HotAt X.A pp.1 s5.heap := ⟨hh, pp.2, v1, I5.base.keep _ _ pin3.1 pin3.2.1 pstk (fun z => pne (by simpa using z)), e1, c1⟩
      refine next_list_hot hot5 pne st5 p5.isList (by simp; omega) fun h' eb => ?_
      have I6 : Inv (X.blk s3 H3 scope ce [n]) [] (wipe σ (own.map (·.2))) H5 { s5 with heap := h' } := I5.turned (t' := s5.toks) (fun b o hb e => eb b o hb e) f0 f1 f3' f4 f5
      have I7 : Inv X pins σ H5 { s5 with heap := h' } := I3.call' (ch := [n]) I6.os I6.base I6.hok I6.bare fun b hb => ⟨(f3 b hb).1.2.2.2.1, (f3 b hb).1.2.1, (f3 b hb).1.2.2.2.2.1, (f3 b hb).1.2.2.2.2.2⟩
      have nC : H5 s3.heap.objs.size = none := by
        have z : H5 ce.locals = none := I6.free
        rwa [cL] at z
      obtain ⟨mm, hnn, _⟩ := I6.loc
      have hnn : (⟨h', s5.gens, s5.drawn, s5.toks, s5.os⟩ : Shared).heap.Ns ce.locals mm := hnn
      rw [cL] at hnn
      obtain ⟨g0, g1, g2, g3, g4, g5⟩ := I3.fpOk (Nat.le_refl _) nC
      exact ⟨mm, hnn, fun h'' sb => ⟨.ref D, H5, I7.turned (t' := s5.toks) (fun b o hb e => (sb.2 b hb).trans e) g0 g1 g3 g4 g5, rfl, qq⟩⟩
    · obtain ⟨ys, y, hq5, hy⟩ := go
      obtain ⟨its5, rv5, p5, _⟩ := I5.list hq5
      obtain ⟨u, hu, ru⟩ := rv5.get hy
      refine wpAny_pyNext_list_item st5 p5.isList (x := u) (by simpa using hu) fun h' st6 sb => ?_
      have I6 : Inv (X.blk s3 H3 scope ce [n]) [] (wipe σ (own.map (·.2))) H5 { s5 with heap := h' } := I5.turned (t' := s5.toks) (fun b o hb e => (sb.2 b hb).trans e) f0 f1 f3' f4 f5
      obtain ⟨o6, e6, c6, d6⟩ := id st6
      refine go_of (s := { s5 with heap := h' }) e6 c6 d6 (by decide) ?_
      have I7 := I6.pinned (fp := [n]) (fun b hb => by rw [show b = n by simpa using hb]; exact stat I6 n5) (T.obj _ _ st6)
      have y7 : (Itl X.K a).yld i H5 y H5 := ⟨rfl, fun zs hz => by rw [I5.list_inj hz hq5]; exact hy⟩
      refine thnF (pg.run _ _ _ H5 y u _ I7 ru (step y H5 y7)) fun _ s8 ⟨σ8, H8, I8, hw8, q8⟩ => ?_
      refine thnF (pt.run _ s8 σ8 H8 _ I8 q8) fun b s9 ⟨H9, I9, q9⟩ => ?_
      have fin : ∀ {s' : Shared} {H' : Hp}, Inv (X.blk s3 H3 scope ce [n]) ([] ++ pinsAt [n] h') σ8 H' s' → Nx H' → ∃ m', m' < m ∧ ∃ i H', Inv (X.blk s3 H3 scope ce [n]) [] (wipe σ (own.map (·.2))) H' s' ∧ s'.heap.IsListIter n a i ∧ H' n = none ∧ W i m' H' := fun {s' H'} I' nx => by
        obtain ⟨m', hm, w'⟩ := hNx H' nx
        have z := I'.pin (n, o6) (List.mem_append_right _ (List.mem_append_right _ (mem_pinsAt (by simp) e6)))
        have hl : (wipe σ (own.map (·.2))).length = σ8.length := by rw [← hw8, wipe_length]
        refine ⟨m', hm, i + 1, H', (I'.unpinned (pins := [])).weak hl (fun j v e => ?_), T.keep _ _ _ st6 fun b hb o e => ?_, z.2.1, w'⟩
        · rw [← hw8] at e
          exact (wipe_some e).1
        · have eb : b = n := by simpa using hb
          subst eb
          have e7 : h'.get? b = some o := e
          rw [show h'.get? b = some o6 from e6] at e7
          rw [← e7]
          exact z.1
      cases b with
      | false =>
        simp only [Bool.false_eq_true, if_false] at q9 ⊢
        exact fin I9 q9
      | true =>
        simp only [if_true] at q9 ⊢
        refine thnF (pe.run _ s9 σ8 H9 _ I9 q9) fun z s10 ⟨yv, H10, I10, r10, acc, hD10, hz10, nx⟩ => ?_
        exact app_ok (X := X.blk s3 H3 scope ce [n]) I10 hD10 hz10 r10 fun s11 I11 => fin I11 nx
  exact codeAny_compStart_list loop (T.self X.A 0 _ _ _ st4 loop)
end
end Mu

namespace Mu
open PySem PySem.Spec PyProof.Rows L2 Evl
/-! ### the program's errors: over ValueError, with an __init__ that says super().__init__(text) and stores fields -/
theorem oexB_ok {K : PySem.W.Frag} {C : Addr} (h : oexB K C = true) : OexC K C := by
  obtain ⟨h0, h⟩ := He.ba h
  obtain ⟨h1, h⟩ := He.ba h
  obtain ⟨h2, h⟩ := He.ba h
  obtain ⟨h3, h4⟩ := He.ba h
  refine ⟨?_, He.eqO_ok h1, of_decide_eq_true h2, of_decide_eq_true h3, h4⟩
  split at h0
  · rename_i od cd sl e
    split at h0
    · rename_i C' bm k0 k1 k2 k3 n k5 em es
      obtain ⟨a1, h0⟩ := He.ba h0
      obtain ⟨a2, h0⟩ := He.ba h0
      obtain ⟨a3, h0⟩ := He.ba h0
      obtain ⟨a4, a5⟩ := He.ba h0
      have e1 : C' = C := by simpa using a1
      have e2 : n = "ValueError.__new__" := by simpa using a2
      subst e1 e2
      obtain ⟨nm, bs, mro, ns, qn, hd, sn, sb, ab, col, del⟩ := cd
      have e3 : mro = .ref C' :: bm := em
      have e4 : del = false := by simpa using a3
      have e5 : hd = true := a4
      subst e3 e4 e5
      have e6 : sl = #[k0, k1, k2, k3, some (.builtin "ValueError.__new__"), k5] := by
        apply Array.ext'
        rw [es]
      subst e6
      exact ⟨nm, qn, ns, bs, bm, sn, sb, ab, col, od, k0, k1, k2, k3, k5, e, a5⟩
    · cases h0
  · cases h0
/-- an error class C, its __init__ at fI -/
structure ErrC (K : PySem.W.Frag) (C fI : Addr) : Prop where
  oex : OexC K C
  iC : PySem.W.findIn K (.ref C) "__init__" = some (some (.ref fI))
  tI : PySem.W.typeIn K (.ref fI) = some (.type "function")
  me : PySem.W.mroIn K C (.ref C) = some true
  sup : PySem.W.ks_superIn K C C "__init__" = some (some (.builtin "ValueError.__init__"))
  ve : PySem.W.subIn K (.ref C) (.type "ValueError") = some true
  xf : XfC K C
  is : ExcC K C
theorem errB_ok {K : PySem.W.Frag} {C fI : Addr} (h : errB K C fI = true) : ErrC K C fI := by
  obtain ⟨h0, h⟩ := He.ba h
  obtain ⟨h1, h⟩ := He.ba h
  obtain ⟨h2, h⟩ := He.ba h
  obtain ⟨h3, h⟩ := He.ba h
  obtain ⟨h4, h⟩ := He.ba h
  obtain ⟨h5, h⟩ := He.ba h
  obtain ⟨h6, h⟩ := He.ba h
  obtain ⟨h7, h⟩ := He.ba h
  obtain ⟨h8, h⟩ := He.ba h
  obtain ⟨h9, h10⟩ := He.ba h
  have x := xfB_ok h6
  exact ⟨oexB_ok h0, He.eqO_ok h1, of_decide_eq_true h2, of_decide_eq_true h3, He.eqO_ok h4, of_decide_eq_true h5, x, ⟨x.ga, x.gg, x.exC, x.hdC, He.eqO_ok h7, He.eqO_ok h8, of_decide_eq_true h9, of_decide_eq_true h10⟩⟩
/-- what such an __init__ does: the fields ns get the arguments -/
def spErr (C : Addr) (ns : List Str) : Sp := fun vs H Q _ => ∃ (a : Addr) (xs : List V), vs = .ref a :: xs ∧ xs.length = ns.length ∧ H a = some (exo a C none) ∧ ∀ d, H d = none → d ≠ a → Q .non (upd (upd H d (exd d (ns.zip xs).reverse)) a (exo a C (some d)))
theorem upd_swap {H : Hp} {a d : Addr} {o u v : HO} (h : d ≠ a) : upd (upd (upd H d o) a u) d v = upd (upd H d v) a u := by
  funext b
  by_cases c : b = d
  · subst c
    rw [upd_same, upd_ne h, upd_same]
  · rw [upd_ne c]
    by_cases c2 : b = a
    · subst c2
      rw [upd_same, upd_same]
    · rw [upd_ne c2, upd_ne c2, upd_ne c, upd_ne c]
/-! ### raising such an error (where nothing is handled) -/
theorem pmk_err {X : Cx} {CX : CXT} {x : Str} {e : Expr} {es : List Expr} {ta : TA} {p pos : Pos} {C fI : Addr} {k : Nat} {fd : FuncData} {ps : List Str} {sp : Sp} (T : ErrC X.K C fI)
    (F1 : FnOk X.prog X.w X.K X.mg X.base CX k fI fd ps sp) (hr : Room (k + 1) X.A) (hb : Binds X.K fd ps []) (hx : Passes CX X (fun _ _ _ => False)) (hg : Gl X x) (hm : X.mg x = some (.ref C)) (ha : PA X (e :: es) ta)
    (hdb : (x == ("__debug__" : Str)) = false := by decide) (he : starEach (e :: es) X.env = (false, eval e X.env) :: starEach es X.env := by rfl) (hpl : (backTo pos (starEach es X.env)).any (·.1) = false := by rfl) :
    L2N.PMk X (.Call (.Name x p) (e :: es) [] pos) (tMkO C sp [] ta) := by
  intro pins s σ H Q I h
  obtain ⟨nm, q, N, bs, bm, sn, sub, ab, col, dd, k0, k1, k2, k3, k5, hC, hbm⟩ := T.oex.cls
  refine wpAny_Call_Name_kw (ld_glob I hg hm ?_ hdb)
  refine PySem.W.callWith_K (h₀ := X.base) I.ok.mod.kin T.oex.kC (thn (ha.run pos pins s σ H _ I h) fun us s1 ⟨vs, H1, I1, r1, hz, q1⟩ => ⟨I1.kIn, ?_⟩) he hpl
  show wpAny _ _ (call (.ref C) us) _ _ _
  obtain ⟨hp, g, dr, tk, os⟩ := s1
  have hsz : hp.objs.size ≤ hp.objs.size + 1 := Nat.le_succ _
  have hq := q1 (hp.objs.size + 1) (I1.hok.fresh hsz)
  rw [List.append_nil] at hq
  have kk : ∀ b o, hp.get? b = some o → ((hp.push (PySem.W.kdv_tup us)).push (PySem.HandSPX.excO C hp.objs.size)).get? b = some o := fun b o e => Heap.get?_push_of_some _ (Heap.get?_push_of_some _ e)
  have I2 := I1.laid (t' := tk) (a := hp.objs.size + 1) (o := exo (hp.objs.size + 1) C none) (h' := (hp.push (PySem.W.kdv_tup us)).push (PySem.HandSPX.excO C hp.objs.size)) kk hsz (exo_ok (by heap_get))
  have r2 : Vals (V.ref (hp.objs.size + 1) :: vs) (Value.ref (hp.objs.size + 1) :: us) := .cons rfl r1
  have hl : (Value.ref (hp.objs.size + 1) :: us ++ []).length = ps.length := by
    rw [List.append_nil, ← r2.length]
    exact F1.len _ _ _ _ hq
  have hus : us.length ≤ sizeLine := by
    rw [← Paired.length r1, sizeLine_eq]
    omega
  have b2 := hb _ (Value.ref (hp.objs.size + 1) :: us) I2.kIn hl
  rw [List.append_nil] at b2
  refine wpAny_call (PySem.HandSPX.call_own F.excBase_ValueError (fun Y => PySem.HandSPX.refsVE_contains Y bm hbm) (I1.kIn _ _ hC) (PySem.W.looks_findIn I1.kIn T.iC) (fun self => PySem.W.bind_fn I1.kIn self T.tI) hus
    (codeAny_mono (F1.run _ X.stack _ _ ⟨Value.ref (hp.objs.size + 1) :: us, []⟩ (Value.ref (hp.objs.size + 1) :: us) _ _ (fun _ _ _ => False) (hr.make C us []) (I2.env0.make C us []) b2 r2 hq) fun r s' hq' => ?_))
  cases r with
  | error er => exact hx pins σ _ _ er s' I2 hq'
  | ok fl =>
    cases fl with
    | ret u =>
      obtain ⟨v, H2, os2, bare2, un2, hok2, rv, ev, d, fs, ea, ed, hd1, q2⟩ := hq'
      subst ev
      obtain ⟨h2, g2, d2, t2, os'⟩ := s'
      obtain ⟨t0, G, J, kG, ge, hoe, na⟩ := mk_end0 (d2 := d2) (t2 := t2) I1 hsz kk un2 hok2 os2 bare2 ea ed hd1
      exact ⟨rv, hp.objs.size + 1, _, _, ⟨G, g2, d2, t2, os'⟩, _, .ref C, some d, rfl, J, kG, ge, hoe, ⟨rfl, rfl, fun vs hv => by cases hv; rfl⟩, rfl, rfl, na, rfl, bare2, raises_own T.oex.exC T.oex.tyC, q2⟩
    | next => exact False.elim hq'
    | brk => exact False.elim hq'
    | cont => exact False.elim hq'
/-! ### a def that is called with the caught error -/
structure FnE (P : Program) (w : World) (K : PySem.W.Frag) (mg : Str → Option Value) (base : Heap) (CX : CXT) (k : Nat) (f : Addr) (fd : FuncData) (ps : List Str) (sp : Addr × Obj → Sp) : Prop where
  len : ∀ p vs H Q E, sp p vs H Q E → vs.length = ps.length
  run : ∀ (A : Around) (outer : List Env) (s : Shared) (H : Hp) (args : Args) (us : List Value) (vs : List V) (Q : VK) (E : XK) (p : Addr × Obj), L2H.RoomH k A → L2H.Hot1 A p → L2H.PinOk outer H s p → Env0 P w K mg base A outer s H → BindsTo s fd args (ps.zip us) → Vals vs us → sp p vs H Q E →
    codeAny (model P w) A (.call (.ref f) args) (CR CX outer P w H s Q E) s
theorem fn_ofE {CX : CXT} {P : Program} {w : World} {K : PySem.W.Frag} {mg : Str → Option Value} {base : Heap} {k : Nat} {x qual : Str} {params : Arguments} {body : List Stmt} {scope : Scope} {dvs : List V} {kws : List (Str × V)} {f : Addr} {fd : FuncData} {N ps : List Str} {sp : Addr × Obj → Sp} (F : FunD K x qual params body scope dvs kws f fd) (S : FnScope N ps scope)
    (len : ∀ p vs H Q E, sp p vs H Q E → vs.length = ps.length)
    (hbody : ∀ (cdv : Value) (A : Around) (outer : List Env) (s : Shared) (H : Hp) (vs : List V) (Q : VK) (E : XK) (p : Addr × Obj), L2H.Hot1 A p → L2H.RoomH k (A.deeper (envOfC qual scope s.heap.objs.size f cdv)) → sp p vs H Q E →
      ∃ t, PSs (L2H.cxH CX P w K mg base N qual scope f cdv A outer s H E p) body t ∧ t { nx := fun _ H' => Q .non H', rt := Q } (L2.start N vs) H) : FnE P w K mg base CX (k + 1) f fd ps sp := by
  obtain ⟨oc, od, dV, kV, doc, pm, an, cdv, ct, osl, rfl, lk, hcd, _, _⟩ := F.ex
  refine ⟨len, fun A outer s H args us vs Q E p hr hot hpin e0 hb r hsp => ?_⟩
  have KX : K.In s.heap := e0.mod.kin.keeps fun b o e => (e0.bs b o e).1
  have lim : s.heap.NoLimit := e0.mod.nolimit.keeps fun b o e => (e0.bs b o e).1
  refine codeAny_call_function hr.depth (KX _ _ lk) rfl S.co S.gen rfl (PySem.W.codeRec_of KX hcd) (hb _ _ _ _ ?_)
  refine wpAny_newFunctionEnv_cells S.kind (fun y hy => (S.par y.1 (List.of_mem_zip hy).1).imp id fun q => ⟨q, PySem.W.cellsFrom_some _ _ _ (.inl q)⟩) fun env he s1 x => ?_
  subst he
  refine ⟨lim.keeps x.toInCall.keep, codeAny_func ?_⟩
  obtain ⟨t, ht, hq⟩ := hbody cdv A outer s H vs Q E p hot (hr.deeper _) hsp
  have I := L2H.inv_startH (CX := CX) (E := E) S hpin e0 (len p vs H Q E hsp) r x
  refine wpAny_mono (ht.run [] s1 (L2.start N vs) H _ I hq) (fun fl s' hs => ?_) fun e s' hs => hs
  cases fl with
  | ret u =>
    obtain ⟨v, σ', H', J, rv, q⟩ := hs
    exact ⟨v, H', J.os, J.bare, J.base, J.hok, rv, q⟩
  | next =>
    obtain ⟨σ', H', J, q⟩ := hs
    exact ⟨V.non, H', J.os, J.bare, J.base, J.hok, rfl, q⟩
  | brk =>
    obtain ⟨_, _, _, q⟩ := hs
    exact q.elim
  | cont =>
    obtain ⟨_, _, _, q⟩ := hs
    exact q.elim
section
variable {X : Cx} {CX : CXT} {k : Nat} {f : Addr} {fd : FuncData} {ps : List Str} {sp : Addr × Obj → Sp} {E : L2.St → XK} {x : Str} {q pos : Pos} {e : Expr} {es : List Expr} {t : TA} {p : Addr × Obj}
theorem pe_callE (F : FnE X.prog X.w X.K X.mg X.base CX k f fd ps sp) (hr : L2H.RoomH k X.A) (hot : L2H.Hot1 X.A p) (hp : p ∈ X.pn) (hg : Gl X x) (hm : X.mg x = some (.ref f)) (hk : PySem.W.keepIn X.K (.ref f) = true) (hb : Binds X.K fd ps []) (hx : ∀ σ, PassesAt CX X σ (E σ))
    (ha : PA X (e :: es) t) (hdb : (x == ("__debug__" : Str)) = false := by decide) (he : starEach (e :: es) X.env = (false, eval e X.env) :: starEach es X.env := by rfl) (hpl : (backTo pos (starEach es X.env)).any (·.1) = false := by rfl) :
    PE X (.Call (.Name x q) (e :: es) [] pos) (tCallS (sp p) E t) := by
  refine ⟨fun pins s σ H Q I h => ?_⟩
  refine wpAny_Call_Name_kw (ld_glob I hg hm ?_ hdb)
  refine PySem.W.callWith_K (h₀ := X.base) I.ok.mod.kin hk (thn (ha.run pos pins s σ H _ I h) fun us s1 ⟨vs, H1, I1, r, q⟩ => ⟨I1.kIn, ?_⟩) he hpl
  have hl : us.length = ps.length := by rw [← r.length]; exact F.len _ _ _ _ _ q
  have b := hb s1 us I1.kIn (by rw [List.append_nil]; exact hl)
  rw [List.append_nil] at b
  have P1 := I1.pin p (List.mem_append_left _ hp)
  have hpin : L2H.PinOk X.stack H1 s1 p := ⟨P1.1, P1.2.1, fun hm => (List.mem_cons.mp (I1.stkSub p.1 hm)).elim P1.2.2.1 P1.2.2.2.1, P1.2.2.2.2⟩
  refine wpAny_call (codeAny_mono (F.run X.A X.stack s1 H1 ⟨us, []⟩ us vs Q (E σ) p hr hot hpin I1.env0 b r q) fun r s' hq => ?_)
  cases r with
  | error e => exact hx σ pins H1 s1 e s' I1 hq
  | ok fl =>
    cases fl with
    | ret u => exact I1.after hq
    | next => exact False.elim hq
    | brk => exact False.elim hq
    | cont => exact False.elim hq
end
/-- isinstance(e, c), e the error that is handled -/
def rIsP (K : PySem.W.Frag) (D a : Addr) (d : Option Addr) : List V → Hp → VK → Prop := fun xs H Q => ∃ (c : V) (cv : Value) (b : Bool), xs = [.ref a, c] ∧ (∀ u, RelV c u → u = cv) ∧ PySem.W.kitOne K (.ref D) cv = some b ∧ (∀ dd, d = some dd → ∃ fs, H dd = some (.xd fs)) ∧ Q (.bl b) H
theorem call_isP {X : Cx} {a D : Addr} {d : Option Addr} {oe : Obj} (C : ExcC X.K D) (hp : (a, oe) ∈ X.pn) (hz : Zc (.ref D) d oe) (hf : ∃ vs, oe.data = .fields vs) : CallR X (.builtin "isinstance") (rIsP X.K D a d) := by
  intro pins s σ H xs us Q I r h
  obtain ⟨c, cv, b, rfl, hcv, e, hd, q⟩ := h
  cases r with
  | cons rx rr =>
    cases rr with
    | cons rt rr =>
      cases rr
      cases rx
      have ec := hcv _ rt
      subst ec
      obtain ⟨hget, _⟩ := I.pin (a, oe) (List.mem_append_left _ hp)
      obtain ⟨vs, hv⟩ := hf
      have hcl : (PySem.W.clsIn X.K D).isSome = true := by
        obtain ⟨cd, hc, _⟩ := PySem.W.any_some C.hd
        rw [hc]; rfl
      have J : ∃ od, PySem.W.InstAt s.heap a oe D od := by
        cases d with
        | none => exact ⟨none, hget, hz.1, by unfold PySem.W.notCls; rw [hv] <;> rfl, by rw [hz.2]; trivial⟩
        | some dd =>
          obtain ⟨fs, hfs⟩ := hd dd rfl
          obtain ⟨mA, hns, _⟩ := (show ObjOk X.prog X.w H s.heap dd (.xd fs) from I.hok dd _ hfs)
          obtain ⟨od, _, _, hod, _⟩ := hns
          exact ⟨some od, hget, hz.1, by unfold PySem.W.notCls; rw [hv] <;> rfl, by rw [hz.2]; exact hod⟩
      obtain ⟨od, J⟩ := J
      exact PySem.W.kia_one (PySem.W.kitx_exc hcl C.hg C.hk C.hs C.ha C.hn C.ht C.hm) I.kIn J e (fun z => nomatch z) fun tk => ⟨.bl b, H, I.kept (t' := tk) fun _ _ z => z, rfl, q⟩
/-! ### readings within the suite -/
/-- a caught error: its fields -/
def rE (a : Addr) (fs : List (Str × V)) (d : Option Addr) : Rp := ⟨fun v G => v = .ref a ∧ XdOk G fs d, fun e h => ⟨h.1, h.2.mono e⟩⟩
section
variable {Γ : Ctx} {M : List Re} {te : TE} {K : PySem.W.Frag} {a C D : Addr} {fs : List (Str × V)} {d : Option Addr} {v c : V} {cv : Value} {b : Bool} {f : Str}
theorem x_xf (h : EvX Γ te (rE a fs d)) (hd : d.isSome = true) (hf : fs.lookup f = some v) : EvX Γ (tXf a (.ref C) d C f te) (rV v) := fun σ G en H e Q q => h σ G en H e _ fun x G2 H2 g hx => by
  obtain ⟨rfl, hx⟩ := hx
  obtain ⟨dd, rfl⟩ := Option.isSome_iff_exists.mp hd
  exact ⟨rfl, rfl, dd, fs, v, rfl, g.i _ _ hx, hf, q v G2 H2 g rfl⟩
theorem x_isP (h : EvX Γ te (rE a fs d)) (hc : ClsV c cv) (e : PySem.W.kitOne K (.ref D) cv = some b) : EvX Γ (tCB (rIsP K D a d) (tCons te (tCons (tC c) tNil))) (rB b) := fun σ G en H e' Q q => h σ G en H e' _ fun x G2 H2 g hx => by
  obtain ⟨rfl, hx⟩ := hx
  refine ⟨c, cv, b, rfl, fun u hu => ?_, e, fun dd hd => ?_, q _ G2 H2 g rfl⟩
  · cases hc with
    | ty n => exact hu
    | own a => exact hu
  · subst hd
    exact ⟨fs, g.i _ _ hx⟩
end
/-! ### what may be raised -/
abbrev Out := Rp ⊕ (Value × List (Str × V))
def spO (R : List V → Hp → Out → Prop) : Sp := fun vs H Q E => ∃ G o, Ex G H ∧ R vs G o ∧ (∀ r, o = .inl r → ∀ v G2 H2, Gr G H G2 H2 → r.p v G2 → Q v H2) ∧ (∀ cls fs, o = .inr (cls, fs) → ∀ d G2 H2, Gr G H G2 H2 → XdOk G2 fs d → E cls d H2)
def EXX (W : WX) (Γ : Ctx) (M : List Re) (te : TE) (o : Out) : Prop := ∀ B G H σ, Ok B G H M → En σ G Γ → ∀ Q : VK, (∀ r, o = .inl r → ∀ v G' H', Ok B G' H' M → Ex G G' → r.p v G' → Q v H') → (∀ cls fs, o = .inr (cls, fs) → ∀ d G' H', Ok B G' H' M → Ex G G' → XdOk G' fs d → W cls d σ H') → te σ H Q
section
variable {W : WX} {Γ : Ctx} {M : List Re} {te : TE} {ta : TA} {o : Out} {rs : List Rp} {κ : Kn} {i : Nat} {R : List V → Hp → Out → Prop} {K : PySem.W.Frag}
theorem x_callX (h : EvAX Γ ta rs) (hs : ∀ vs G, RA G vs rs → R vs G o) : EXX W Γ M (tCallS (spO R) (WE W) ta) o := fun B G H σ ok en Q q1 q2 => h σ G en H ok.i _ fun vs G2 H2 g ra =>
  ⟨G2, o, g.i, hs vs G2 ra, fun r e v G3 H3 g3 hv => q1 r e v G3 H3 (ok.gr (g.trans g3)) (g.g.trans g3.g) hv, fun cls fs e d G3 H3 g3 hx => q2 cls fs e d G3 H3 (ok.gr (g.trans g3)) (g.g.trans g3.g) hx⟩
theorem w_doX (h : EXX W Γ M te o) (hn : ∀ r, o = .inl r → κ.nx Γ M) (hx : ∀ cls fs, o = .inr (cls, fs) → κ.ex Γ cls fs M) : WP W Γ M (tDrop te) κ := fun B G H σ D ok en d =>
  h B G H σ ok en _ (fun r e v G2 H2 o2 e2 hv => d.nx _ G2 H2 _ M o2 (en.mono e2) (hn r e)) fun cls fs e dd G2 H2 o2 e2 xd => d.ex _ G2 H2 _ M cls dd fs o2 (en.mono e2) xd (hx cls fs e)
theorem w_setX (h : EXX W Γ M te o) (hn : ∀ r, o = .inl r → κ.nx (Γ.set i (some r)) M) (hx : ∀ cls fs, o = .inr (cls, fs) → κ.ex Γ cls fs M) : WP W Γ M (tAsg te (gName i)) κ := fun B G H σ D ok en d =>
  h B G H σ ok en _ (fun r e v G2 H2 o2 e2 hv => d.nx _ G2 H2 _ M o2 ((en.mono e2).set hv i) (hn r e)) fun cls fs e dd G2 H2 o2 e2 xd => d.ex _ G2 H2 _ M cls dd fs o2 (en.mono e2) xd (hx cls fs e)
theorem w_retX (h : EXX W Γ M te o) (hn : ∀ r, o = .inl r → κ.rt r M) (hx : ∀ cls fs, o = .inr (cls, fs) → κ.ex Γ cls fs M) : WP W Γ M (tRet te) κ := fun B G H σ D ok en d =>
  h B G H σ ok en _ (fun r e v G2 H2 o2 e2 hv => d.rt _ G2 H2 r M o2 hv (hn r e)) fun cls fs e dd G2 H2 o2 e2 xd => d.ex _ G2 H2 _ M cls dd fs o2 (en.mono e2) xd (hx cls fs e)
theorem ra_vals_eq {H : Hp} : ∀ {l vs : List V}, RA H vs (l.map rV) → vs = l
  | [], _, .nil => rfl
  | n :: r, _, .cons h t => by
    have e1 := ra_vals_eq (l := r) t
    have e2 : _ = n := h
    rw [e1, e2]
/-- raise C(..) -/
theorem w_raise {C : Addr} {ns : List Str} {xs : List V} (h : EvAX Γ ta (xs.map rV)) (hl : xs.length = ns.length) (hz : ns.length ≤ 1000) (hx : κ.ex Γ (.ref C) (ns.zip xs).reverse M) : WP W Γ M (fun _ σ H => tMkO C (spErr C ns) [] ta σ H fun cls d H' => W cls d σ H') κ := fun B G H σ D ok en d =>
  h σ G en H ok.i _ fun vs G2 H2 g ra => by
    have ev := ra_vals_eq ra
    subst ev
    refine ⟨by rw [hl]; exact hz, fun a ha => ?_⟩
    rw [List.append_nil]
    refine ⟨a, vs, rfl, hl, upd_same, fun dd hd hda => ⟨rfl, dd, _, upd_same, by rw [upd_ne hda]; exact upd_same, ?_, ?_⟩⟩
    · rwa [upd_ne hda] at hd
    · have hd2 : H2 dd = none := by rwa [upd_ne hda] at hd
      have e : upd (del (upd (upd (upd H2 a (exo a C none)) dd (exd dd (ns.zip vs).reverse)) a (exo a C (some dd))) a) dd (.xd (ns.zip vs).reverse) = upd H2 dd (.xd (ns.zip vs).reverse) := by
        funext b
        by_cases c : b = dd
        · subst c; rw [upd_same, upd_same]
        · rw [upd_ne c, upd_ne c]
          by_cases c2 : b = a
          · subst c2; rw [del_same, ha]
          · rw [del_ne c2, upd_ne c2, upd_ne c, upd_ne c2]
      rw [e]
      have g3 := Gr.new (o := .xd (ns.zip vs).reverse) g.i hd2
      exact d.ex _ _ _ Γ M (.ref C) (some dd) _ (ok.gr (g.trans g3)) (en.mono (g.g.trans g3.g)) upd_same hx
/-- try: .. except c as n: .. -/
theorem w_try {c : Value} {tb : WX → TS} {ts : Addr → Value → Option Addr → TS} (h : ∀ W', WP W' Γ M (tb W') { κ with ex := fun Γ' cls fs M' => ∃ b, PySem.W.exmOne K cls c = some b ∧
      (b = true → ∀ a d, (fs ≠ [] → d.isSome = true) → WP (fun _ _ _ _ => False) (Γ'.set i (some (rE a fs d))) M' (ts a cls d) { nx := fun Γ2 M2 => κ.nx (Γ2.set i none) M2, rt := κ.rt, bk := fun Γ2 M2 => κ.bk (Γ2.set i none) M2, ct := fun Γ2 M2 => κ.ct (Γ2.set i none) M2 }) ∧ (b = false → κ.ex Γ' cls fs M') }) :
    WP W Γ M (fun D σ H => tb (wAs K c i ts W D) D σ H) κ := fun B G H σ D ok en d =>
  h _ B G H σ D ok en ⟨d.nx, d.rt, d.bk, d.ct, fun σ' G' H' Γ' M' cls dd fs o' en' xd z => by
    obtain ⟨b, h1, h2, h3⟩ := z
    refine ⟨b, h1, fun hb a ha => ?_, fun hb => d.ex σ' G' H' Γ' M' cls dd fs o' en' xd (h3 hb)⟩
    refine h2 hb a dd (fun hf => ?_) B G' H' _ _ o' (en'.set (r := rE a fs dd) ⟨rfl, xd⟩ i) ⟨fun σ2 G2 H2 Γ2 M2 o2 en2 q => d.nx _ G2 H2 _ M2 o2 (en2.wipe1 i) q, d.rt, fun σ2 G2 H2 Γ2 M2 o2 en2 q => d.bk _ G2 H2 _ M2 o2 (en2.wipe1 i) q, fun σ2 G2 H2 Γ2 M2 o2 en2 q => d.ct _ G2 H2 _ M2 o2 (en2.wipe1 i) q, fun _ _ _ _ _ _ _ _ _ _ _ q => q.elim⟩
    cases dd with
    | none => exact absurd xd hf
    | some _ => rfl⟩
/-- from a def's promise to its walk, errors told -/
theorem run_O {t : TS} {G H : Hp} {σ : L2.St} {Q : VK} {E : XK} (w : WP (fun cls d _ H => E cls d H) Γ [] t { nx := fun _ _ => o = .inl (rV .non), rt := fun r' _ => o = .inl r', ex := fun _ cls fs _ => o = .inr (cls, fs) }) (e : Ex G H) (en : En σ G Γ) (k1 : ∀ r, o = .inl r → ∀ v G2 H2, Gr G H G2 H2 → r.p v G2 → Q v H2) (k2 : ∀ cls fs, o = .inr (cls, fs) → ∀ d G2 H2, Gr G H G2 H2 → XdOk G2 fs d → E cls d H2) : t { nx := fun _ H' => Q .non H', rt := Q } σ H :=
  w _ G H σ _ (Ok.nil e) en ⟨fun σ' G' H' Γ' M' o en' z => k1 _ z _ G' H' o.to rfl, fun v G' H' r' M' o hv z => k1 r' z v G' H' o.to hv, fun _ _ _ _ _ _ _ z => z.elim, fun _ _ _ _ _ _ _ z => z.elim, fun σ' G' H' Γ' M' cls d fs o en' xd z => k2 cls fs z d G' H' o.to xd⟩
end
theorem takesN0 {X : Cx} : L2N.Takes X (fun _ _ _ _ => False) := fun _ _ x => by
  obtain ⟨_, _, _, _, _, _, _, _, _, _, _, _, _, _, _, _, z⟩ := x
  exact z.elim
theorem passF {X : Cx} : Passes (L2N.CX X.prog X.w) X (fun _ _ _ => False) := fun _ _ _ _ _ _ _ h => by
  obtain ⟨_, _, _, _, _, _, _, _, _, _, _, _, z⟩ := h
  exact z.elim
theorem SpD.ofO {R : List V → Hp → Out → Prop} {vs : List V} {G : Hp} {r : Rp} (h : R vs G (.inl r)) : SpD (spO R) vs G r := fun H e Q q E => ⟨G, .inl r, e, h, fun r' e' => by cases e'; exact q, fun _ _ z => nomatch z⟩
theorem pe_imp {X : Cx} {e : Expr} {t t' : TE} (h : PE X e t) (hi : ∀ σ H Q, t' σ H Q → t σ H Q) : PE X e t' := ⟨fun pins s σ H Q I z => h.run pins s σ H Q I (hi σ H Q z)⟩
/-! ### the law's look at an error: of one class alone -/
structure Sg (K : PySem.W.Frag) (cs : List Addr) (mu D : Addr) : Prop where
  is : ExcC K D
  kb : ∀ c ∈ cs, PySem.W.kitOne K (.ref D) (.ref c) = some (decide (PySem.W.kitOne K (.ref D) (.ref c) = some true))
  one : (cs.filter fun c => decide (PySem.W.kitOne K (.ref D) (.ref c) = some true)).length = 1
  mu : PySem.W.kitOne K (.ref D) (.ref mu) = some true
  ve : PySem.W.kitOne K (.ref D) (.type "ValueError") = some true
theorem isB_ok {K : PySem.W.Frag} {C : Addr} (h : isB K C = true) : ExcC K C := by
  obtain ⟨h6, h⟩ := He.ba h
  obtain ⟨h7, h⟩ := He.ba h
  obtain ⟨h8, h⟩ := He.ba h
  obtain ⟨h9, h10⟩ := He.ba h
  have x := xfB_ok h6
  exact ⟨x.ga, x.gg, x.exC, x.hdC, He.eqO_ok h7, He.eqO_ok h8, of_decide_eq_true h9, of_decide_eq_true h10⟩
theorem sgB_ok {K : PySem.W.Frag} {cs : List Addr} {mu D : Addr} (h : sgB K cs mu D = true) : Sg K cs mu D := by
  obtain ⟨h0, h⟩ := He.ba h
  obtain ⟨h1, h⟩ := He.ba h
  obtain ⟨h2, h⟩ := He.ba h
  obtain ⟨h3, h4⟩ := He.ba h
  refine ⟨isB_ok h0, fun c hc => ?_, of_decide_eq_true h2, of_decide_eq_true h3, of_decide_eq_true h4⟩
  have z := List.all_eq_true.mp h1 c hc
  rcases Bool.or_eq_true_iff.mp z with q | q
  · rw [of_decide_eq_true q]; rfl
  · rw [of_decide_eq_true q]; rfl
def spSingle (K : PySem.W.Frag) (cs : List Addr) (mu : Addr) : Addr × Obj → Sp := fun p vs H Q _ => ∃ D d fs G, vs = [.ref p.1] ∧ Zc (.ref D) d p.2 ∧ (∃ ws, p.2.data = .fields ws) ∧ Sg K cs mu D ∧ Ex G H ∧ XdOk G fs d ∧ ∀ v G2 H2, Gr G H G2 H2 → (rB true).p v G2 → Q v H2
/-- the reading of that look, within the suite -/
def tSg (K : PySem.W.Frag) (cs : List Addr) (mu a : Addr) (cls : Value) (d : Option Addr) (t : TA) : TE := fun σ H Q => t σ H fun vs H1 => ∃ D fs G, vs = [.ref a] ∧ cls = .ref D ∧ Sg K cs mu D ∧ Ex G H1 ∧ XdOk G fs d ∧ ∀ v G2 H2, Gr G H1 G2 H2 → (rB true).p v G2 → Q v H2
theorem x_single {Γ : Ctx} {te : TE} {K : PySem.W.Frag} {cs : List Addr} {mu a D : Addr} {fs : List (Str × V)} {d : Option Addr} (h : EvX Γ te (rE a fs d)) (sg : Sg K cs mu D) : EvX Γ (tSg K cs mu a (.ref D) d (tCons te tNil)) (rB true) := fun σ G en H e Q q => h σ G en H e _ fun x G2 H2 g hx => by
  obtain ⟨rfl, hx⟩ := hx
  exact ⟨D, fs, G2, rfl, rfl, sg, g.i, hx, fun v G3 H3 g3 hv => q v G3 H3 (g.trans g3) hv⟩
end Mu

namespace Mu
open PySem PySem.Spec PyProof.Rows L2 Evl
/-! ### readings with a draw in them: the answer by what was drawn -/
def EXD {α : Type} (Γ : Ctx) (M : List Re) (te : TE) (D : α → Prop) (f : α → Rp) : Prop := EX Γ M te (fun r M' => (∃ a, D a ∧ r = f a) ∧ M' = M)
def EXTD {α : Type} (Γ : Ctx) (M : List Re) (t : TT) (D : α → Prop) (c : α → Bool) : Prop := EXT Γ M t (fun b M' => (∃ a, D a ∧ b = c a) ∧ M' = M)
section
variable {α : Type} {D : α → Prop} {W : WX} {Γ : Ctx} {M : List Re} {te ta tb tl : TE} {t u : TT} {r r1 : Rp} {rs : List Rp} {K : PySem.W.Frag} {C b : Addr} {i j k m n : Nat} {x : V} {E : XK} {κ : Kn} {tu tw : TS}
theorem d_of (h : EvX Γ te r) : EXD (α := Unit) Γ M te (fun _ => True) (fun _ => r) := EX.imp (EX.of h) fun r' M' z => ⟨⟨(), trivial, z.1⟩, z.2⟩
theorem d_take (hk : M[k]? = some (boxR K b)) (hv : Γ[i]? = some (some (rV (.ref b)))) (h : EvX Γ te (nI m)) (h0 : 0 < m) (h1 : m < 2 ^ 30) : EXD Γ M (tCall (spT K) [] E (tCons (tVar i) (tCons te tNil))) (fun d : Nat => d < m) nI := e_take hk hv h h0 h1
theorem d_map {β : Type} {D' : β → Prop} {f : α → Rp} {g : β → Rp} (h : EXD Γ M te D f) (hm : ∀ a, D a → ∃ b, D' b ∧ f a = g b) : EXD Γ M te D' g := EX.imp h fun r M' z => by
  obtain ⟨⟨a, ha, hr⟩, hM⟩ := z
  obtain ⟨b, hb, e⟩ := hm a ha
  exact ⟨⟨b, hb, hr.trans e⟩, hM⟩
theorem d_opR {rr : R2} {y f : α → V} (ha : EvX Γ ta (rV x)) (hb : EXD Γ M tb D (fun a => rV (y a))) (hs : ∀ a, D a → ∀ H (Q : VK), Q (f a) H → rr x (y a) H Q) : EXD Γ M (tOp rr ta tb) D (fun a => rV (f a)) := fun B G H σ o en Q q =>
  ha σ G en H o.i _ fun v G2 H2 g hv => by
    obtain rfl : v = x := hv
    exact hb B G2 H2 σ (o.gr g) (en.mono g.g) _ fun w G3 H3 r M' z o3 e3 hw => by
      obtain ⟨⟨a, ha, rfl⟩, rfl⟩ := z
      obtain rfl : w = y a := hw
      exact hs a ha H3 Q (q _ G3 H3 _ _ ⟨⟨a, ha, rfl⟩, rfl⟩ o3 (g.g.trans e3) rfl)
theorem d_opL {rr : R2} {y f : α → V} {x' : V} (ha : EXD Γ M ta D (fun a => rV (y a))) (hb : EvX Γ tb (rV x')) (hs : ∀ a, D a → ∀ H (Q : VK), Q (f a) H → rr (y a) x' H Q) : EXD Γ M (tOp rr ta tb) D (fun a => rV (f a)) := fun B G H σ o en Q q =>
  ha B G H σ o en _ fun w G3 H3 r M' z o3 e3 hw => by
    obtain ⟨⟨a, hd, rfl⟩, rfl⟩ := z
    obtain rfl : w = y a := hw
    exact hb σ G3 (en.mono e3) H3 o3.i _ fun v G4 H4 g hv => by
      obtain rfl : v = x' := hv
      exact hs a hd H4 Q (q _ G4 H4 _ _ ⟨⟨a, hd, rfl⟩, rfl⟩ (o3.gr g) (e3.trans g.g) rfl)
theorem d_int {f : α → Int} (h : EXD Γ M te D (fun a => rI (f a))) : EXD Γ M (tCB (fun xs H Q => (∃ i, xs = [.int i] ∧ Q (.int i) H) ∨ ∃ k, xs = [.bl k] ∧ Q (.int (if k then 1 else 0)) H) (tCons te tNil)) D (fun a => rI (f a)) := fun B G H σ o en Q q =>
  h B G H σ o en _ fun w G3 H3 r M' z o3 e3 hw => by
    obtain ⟨⟨a, ha, rfl⟩, rfl⟩ := z
    exact .inl ⟨f a, by rw [show w = V.int (f a) from hw], q _ G3 H3 _ _ ⟨⟨a, ha, rfl⟩, rfl⟩ o3 e3 rfl⟩
/-- xs[a drawn place] -/
theorem d_ixL {f : α → Nat} {g : α → Rp} (hl : EvX Γ tl (rL K rs)) (hb : EXD Γ M tb D (fun a => nI (f a))) (hs : ∀ a, D a → rs[f a]? = some (g a)) : EXD Γ M (tOp (rIxL K) tl tb) D g := fun B G H σ o en Q q =>
  hl σ G en H o.i _ fun v G2 H2 gr hv => hb B G2 H2 σ (o.gr gr) (en.mono gr.g) _ fun w G3 H3 r M' z o3 e3 hw => by
    obtain ⟨⟨a, ha, rfl⟩, rfl⟩ := z
    obtain rfl : w = V.int ((f a : Nat) : Int) := hw
    obtain ⟨p, vs, rfl, h1, h2⟩ := (rL K rs).mono e3 hv
    obtain ⟨y, hy1, hy2⟩ := h2.get (hs a ha)
    exact ⟨p, vs, _, y, rfl, rfl, sq_of (o3.i _ _ h1), atI_nat hy1, q y G3 H3 _ _ ⟨⟨a, ha, rfl⟩, rfl⟩ o3 (gr.g.trans e3) hy2⟩
theorem d_T {c : α → Bool} (h : EXD Γ M te D (fun a => rB (c a))) : EXTD Γ M (tTest te) D c := fun B G H σ o en Q q =>
  h B G H σ o en _ fun w G3 H3 r M' z o3 e3 hw => by
    obtain ⟨⟨a, ha, rfl⟩, rfl⟩ := z
    exact ⟨c a, hw, q _ G3 H3 _ ⟨⟨a, ha, rfl⟩, rfl⟩ o3 e3⟩
theorem d_and {c : Bool} {f : α → Bool} (h1 : EvTX Γ t c) (h2 : c = true → EXTD Γ M u D f) : EXT Γ M (tAnd t u) (fun d M' => ((c = false ∧ d = false) ∨ (c = true ∧ ∃ a, D a ∧ d = f a)) ∧ M' = M) := fun B G H σ o en Q q => h1 σ G en H o.i _ fun H1 e1 => by
  cases c with
  | true =>
    show u σ H1 Q
    exact h2 rfl B G H1 σ (o.ex e1) en Q fun d G2 H2 M' z o2 e2 => q d G2 H2 M' ⟨.inr ⟨rfl, z.1⟩, z.2⟩ o2 e2
  | false =>
    show Q false H1
    exact q false G H1 M ⟨.inl ⟨rfl, rfl⟩, rfl⟩ (o.ex e1) (Ex.refl _)
/-- statements -/
theorem w_setD {f : α → Rp} (h : EXD Γ M te D f) (hn : ∀ a, D a → κ.nx (Γ.set i (some (f a))) M) : WP W Γ M (tAsg te (gName i)) κ := w_setE h fun r M' z => by
  obtain ⟨⟨a, ha, rfl⟩, rfl⟩ := z
  exact hn a ha
theorem w_retD {f : α → Rp} (h : EXD Γ M te D f) (hn : ∀ a, D a → κ.rt (f a) M) : WP W Γ M (tRet te) κ := w_retE h fun r M' z => by
  obtain ⟨⟨a, ha, rfl⟩, rfl⟩ := z
  exact hn a ha
theorem w_ifD {c : α → Bool} (h : EXTD Γ M t D c) (h1 : ∀ a, D a → c a = true → WP W Γ M tu κ) (h2 : ∀ a, D a → c a = false → WP W Γ M tw κ) : WP W Γ M (tIfS t tu tw) κ := w_ifE h (fun M' z => by
  obtain ⟨⟨a, ha, e⟩, rfl⟩ := z
  exact h1 a ha e.symm) (fun M' z => by
  obtain ⟨⟨a, ha, e⟩, rfl⟩ := z
  exact h2 a ha e.symm)
theorem w_appD {p : Addr} {f : α → Rp} (k : Nat) (hi : Γ[i]? = some (some (rV (.ref p)))) (h : EXD Γ M te D f) (hz : rs.length < 50000) (hk : M[k]? = some (lstR p rs)) (hn : ∀ a, D a → κ.nx Γ (M.set k (lstR p (rs ++ [f a])))) : WP W Γ M (tDrop (tBM K "list" rAppend (tVar i) (tCons te tNil))) κ := w_appE k hi h hz (fun r M' z => by
  obtain ⟨⟨a, ha, rfl⟩, rfl⟩ := z
  exact ⟨hk, hn a ha⟩) hk
/-- f(box, ..), f a helper of the law with draws of its own; the answer a new list (which stays) -/
theorem d_callN {ta : TA} {R : List V → Hp → (List Rp → Prop) → Prop} {f : α → List Rp} (hk : M[k]? = some (boxR K b)) (hv : Γ[i]? = some (some (rV (.ref b)))) (h : EvAX Γ ta rs) (hs : ∀ ws G, RA G ws rs → R ws G (fun ss => ∃ a, D a ∧ ss = f a)) : EXD Γ M (tCall (spBN K R) [] E (tCons (tVar i) ta)) D (fun a => rL K (f a)) := EX.imp (EX.ofB (P := fun r => ∃ a, D a ∧ r = rL K (f a)) hk fun σ G en => by
  obtain ⟨v, hv1, hv2⟩ := en.get hv
  obtain rfl : v = V.ref b := hv2
  exact EvB.imp (EvBN.d (ebn_call (P := fun ss => ∃ a, D a ∧ ss = f a) hv1 (h σ G en) fun ws G2 _ ra => hs ws G2 ra)) fun r hP => by
    obtain ⟨rs', ⟨a, ha, rfl⟩, rfl⟩ := hP
    exact ⟨a, ha, rfl⟩) fun r M' z => z
/-- Table(rows that are drawn) -/
theorem d_tab {f : α → List Nat} (h : EXD Γ M te D (fun a => rLL K ((f a).map bitsN))) (hw : ∀ a, D a → Wf n (f a)) (h1 : 1 ≤ n) (h6 : n ≤ 6) : EXD Γ M (tMake C (spTab K C) [] E (tCons te tNil)) D (fun a => rTab K C (f a)) := fun B G H σ o en Q q =>
  h B G H σ o en _ fun w G3 H3 r M' z o3 e3 hw3 => by
    obtain ⟨⟨a, ha, rfl⟩, rfl⟩ := z
    have z2 : EvD (tMake C (spTab K C) [] E (tCons (tC w) tNil)) σ G3 (rTab K C (f a)) := ed_tabRows (fun H e Q q => q w G3 H (Gr.refl e) hw3) (hw a ha) h1 h6
    exact z2 H3 o3.i Q fun v G4 H4 g hv => q v G4 H4 _ _ ⟨⟨a, ha, rfl⟩, rfl⟩ (o3.gr g) (e3.trans g.g) hv
end
end Mu

namespace Mu
open PySem PySem.Spec PyProof.Rows L2 Evl
/-! ### pairs in a tuple -/
def rInTD (K : PySem.W.Frag) : R2 := fun x y H Q => ∃ d ds, Dp K H x d ∧ Dp K H y (.tuple ds) ∧ SeqAt.shaped d = true ∧ SeqAt.shaped (.tuple ds) = true ∧ Q (.bl (ds.any fun z => PyData.eqv z d)) H
theorem op_inTD {X : Cx} (hu : X.A.units + 65 < cLine) : OpR X (compareOp .In) (rInTD X.K) := by
  intro pins s σ H x y v u Q I rx ry h
  obtain ⟨d, ds, hd, he, sd, se, q⟩ := h
  obtain ⟨as, r1⟩ := Dp.reads I d x v hd rx
  obtain ⟨bs, r2⟩ := Dp.reads I (.tuple ds) y u he ry
  exact SeqAt.in_tuple_reads r2 r1 (SeqAt.canLay_of_shaped se) (SeqAt.canLay_of_shaped sd) (room_in_shaped sd hu) ⟨.bl _, H, I, rfl, q⟩
theorem op_inTDK {X : Cx} (K : PySem.W.Frag) (hu : X.A.units + 65 < cLine) (hK : X.K = K := by rfl) : OpR X (compareOp .In) (rInTD K) := hK ▸ op_inTD hu
section
variable {Γ : Ctx} {M : List Re} {te ta tb tc tl : TE} {r r1 r2 : Rp} {rs : List Rp} {K : PySem.W.Frag} {C b : Addr} {i j k m n : Nat} {v w x y : V} {E : XK} {sp : Sp} {α : Type} {D : α → Prop}
theorem x_inTP {p : Nat × Nat} {l : List (Nat × Nat)} (ha : EvX Γ ta (rP K p)) (hb : EvX Γ tb (rT K (l.map (rP K)))) : EvX Γ (tOp (rInTD K) ta tb) (rB (decide (p ∈ l))) := fun σ G en =>
  Ev.d (ev_op2 (ha σ G en) (hb σ G en) fun x y H hx hy Q q => ⟨dP p, l.map dP, asd_p p x H hx, asd_tup asd_p l y H hy, (sh_p p).ok (by decide), (sh_tup sh_p l).ok (by decide), by rw [any_p]; exact q⟩)
/-! ### None -/
theorem x_isN {c : Bool} (h : EvX Γ ta r) (hr : ∀ v G, r.p v G → decide (v = V.non) = c) : EvX Γ (tOp (fun x y H Q => y = V.non ∧ Q (.bl (decide (x = .non))) H) ta (tC .non)) (rB c) := fun σ G en =>
  Ev.d (ev_op2 (h σ G en) (Ev.d (ev_c (v := .non))) fun x y H hx hy Q q => ⟨hy, by rw [hr x H hx]; exact q⟩)
theorem x_notN {c : Bool} (h : EvX Γ ta r) (hr : ∀ v G, r.p v G → decide (v = V.non) = c) : EvX Γ (tOp (fun x y H Q => y = V.non ∧ Q (.bl (!decide (x = .non))) H) ta (tC .non)) (rB (!c)) := fun σ G en =>
  Ev.d (ev_op2 (h σ G en) (Ev.d (ev_c (v := .non))) fun x y H hx hy Q q => ⟨hy, by rw [hr x H hx]; exact q⟩)
theorem non_tab {m : List Nat} (v : V) (G : Hp) (h : (rTab K C m).p v G) : decide (v = V.non) = false := by
  obtain ⟨a, _, _, _, rfl, _⟩ := h
  rfl
theorem non_non (v : V) (G : Hp) (h : (rV .non).p v G) : decide (v = V.non) = true := by
  obtain rfl : v = V.non := h
  rfl
/-- something, or None -/
def rSome (c : Bool) : Rp := ⟨fun v _ => (c = true → ∃ a, v = .ref a) ∧ (c = false → v = .non), fun _ h => h⟩
theorem non_some (c : Bool) (v : V) (G : Hp) (h : (rSome c).p v G) : decide (v = V.non) = !c := by
  cases c with
  | true => obtain ⟨a, rfl⟩ := h.1 rfl; rfl
  | false => rw [h.2 rfl]; rfl
/-! ### o[i], v in o -/
theorem xn_ixOwn {m : List Nat} (ha : EvX Γ ta (rTab K C m)) (hb : EvX Γ tb (rV y)) (hs : ∀ x G, (rTab K C m).p x G → SpN sp [x, y] G rs) : EvNX Γ (tOp (rOwnIx C sp E) ta tb) rs := fun σ G en =>
  en_op (ha σ G en) (hb σ G en) fun x y' G2 H e1 e2 hx hy Q q => by
    obtain rfl : y' = y := hy
    obtain ⟨a, dx, t, c, rfl, h2, _⟩ := id hx
    exact ⟨a, dx, _, rfl, e2 _ _ h2, hs _ G2 hx H e2 Q q E⟩
theorem x_inOwn {m : List Nat} {c : Bool} (ha : EvX Γ ta r) (hb : EvX Γ tb (rTab K C m)) (hs : ∀ x y G, r.p x G → (rTab K C m).p y G → SpD sp [y, x] G (rB c)) : EvX Γ (tOp (rOwnIn C false sp E) ta tb) (rB c) := fun σ G en =>
  ed_op (ha σ G en) (hb σ G en) fun x y G2 H e1 e2 hx hy Q q => by
    obtain ⟨a, dx, t, c', rfl, h2, _⟩ := id hy
    refine ⟨a, dx, _, rfl, e2 _ _ h2, hs _ _ G2 hx hy H e2 _ (fun v G3 H3 g hv => ?_) E⟩
    obtain rfl : v = V.bl c := hv
    exact ⟨c, rfl, q (.bl c) G3 H3 g rfl⟩
/-! ### slices -/
theorem o_no {σ : L2.St} {G : Hp} : EvO tNoPart σ G none := fun H e Q q => q H (Ex.refl _)
theorem o_at {σ : L2.St} {G : Hp} (h : EvX Γ te (nI n)) (en : En σ G Γ) : EvO (tPart te) σ G (some (n : Int)) := fun H e Q q => h σ G en H e _ fun v G2 H2 g hv => by
  obtain rfl : v = V.int (n : Int) := hv
  exact ⟨_, rfl, q H2 g.h⟩
theorem EvX.s (h : EvX Γ te (rL K rs)) : EvX Γ te (rLs K rs) := fun σ G en H e Q q => h σ G en H e Q fun v G2 H2 g hv => q v G2 H2 g (by
  obtain ⟨a, vs, rfl, h1, h2⟩ := hv
  exact ⟨a, vs, rfl, sq_of h1, h2⟩)
theorem xn_slTo (h : EvX Γ te (rL K rs)) (h2 : EvX Γ tb (nI n)) (hn : n ≤ rs.length) : EvNX Γ (tSl (rSlL K) te tNoPart (tPart tb)) (rs.take n) := fun σ G en => by
  have z := en_slL (EvX.s h σ G en) (lo := none) (hi := some (n : Int)) (fun G' _ => o_no) (fun G' e => o_at h2 (en.mono e))
  have e : cutR rs none (some (n : Int)) = rs.take n := by
    unfold cutR
    rw [HT.sIx_none, HT.sIx_nat, Nat.min_eq_left hn, List.drop_zero, Nat.sub_zero]
  rw [e] at z
  exact z
theorem xn_slFrom (h : EvX Γ te (rL K rs)) (h2 : EvX Γ tb (nI n)) (hn : n ≤ rs.length) : EvNX Γ (tSl (rSlL K) te (tPart tb) tNoPart) (rs.drop n) := fun σ G en => by
  have z := en_slL (EvX.s h σ G en) (lo := some (n : Int)) (hi := none) (fun G' e => o_at h2 (en.mono e)) (fun G' _ => o_no)
  have e : cutR rs (some (n : Int)) none = rs.drop n := by
    unfold cutR
    rw [HT.sIx_none, HT.sIx_nat, Nat.min_eq_left hn]
    apply List.take_of_length_le
    rw [List.length_drop]
    exact Nat.le_refl _
  rw [e] at z
  exact z
/-! ### calls with draws -/
theorem d_callB {ta : TA} {R : List V → Hp → (Rp → Prop) → Prop} {f : α → Rp} {PP : Rp → Prop} (hk : M[k]? = some (boxR K b)) (hv : Γ[i]? = some (some (rV (.ref b)))) (h : EvAX Γ ta rs) (hs : ∀ ws G, RA G ws rs → R ws G PP) (hP : ∀ r, PP r → ∃ a, D a ∧ r = f a) : EXD Γ M (tCall (spB K R) [] E (tCons (tVar i) ta)) D f := EX.ofB (P := fun r => ∃ a, D a ∧ r = f a) hk fun σ G en => by
  obtain ⟨v, hv1, hv2⟩ := en.get hv
  obtain rfl : v = V.ref b := hv2
  exact EvB.imp (eb_call hv1 (h σ G en) fun ws G2 _ ra => hs ws G2 ra) hP
theorem d_callNw {ta : TA} {R : List V → Hp → (List Rp → Prop) → Prop} {f : α → List Rp} {PP : List Rp → Prop} (hk : M[k]? = some (boxR K b)) (hv : Γ[i]? = some (some (rV (.ref b)))) (h : EvAX Γ ta rs) (hs : ∀ ws G, RA G ws rs → R ws G PP) (hP : ∀ ss, PP ss → ∃ a, D a ∧ ss = f a) : EXD Γ M (tCall (spBN K R) [] E (tCons (tVar i) ta)) D (fun a => rL K (f a)) := EX.ofB (P := fun r => ∃ a, D a ∧ r = rL K (f a)) hk fun σ G en => by
  obtain ⟨v, hv1, hv2⟩ := en.get hv
  obtain rfl : v = V.ref b := hv2
  exact EvB.imp (EvBN.d (ebn_call (P := PP) hv1 (h σ G en) fun ws G2 _ ra => hs ws G2 ra)) fun r hp => by
    obtain ⟨rs', h2, rfl⟩ := hp
    obtain ⟨a, ha, rfl⟩ := hP _ h2
    exact ⟨a, ha, rfl⟩
/-- f(box, x, a draw) -/
theorem d_callN2 {β : Type} {D0 : β → Prop} {yy : β → V} {R : List V → Hp → (List Rp → Prop) → Prop} {f : α → List Rp} {PP : β → List Rp → Prop} (hk : M[k]? = some (boxR K b)) (hv : Γ[i]? = some (some (rV (.ref b)))) (h1 : EvX Γ ta (rV x)) (h2 : EXD Γ M tb D0 (fun c => rV (yy c))) (hs : ∀ c, D0 c → ∀ G, R [x, yy c] G (PP c)) (hP : ∀ c ss, D0 c → PP c ss → ∃ a, D a ∧ ss = f a) : EXD Γ M (tCall (spBN K R) [] E (tCons (tVar i) (tCons ta (tCons tb tNil)))) D (fun a => rL K (f a)) := fun B G H σ o en Q q => by
  obtain ⟨v, hv1, hv2⟩ := en.get hv
  obtain rfl : v = V.ref b := hv2
  refine ⟨.ref b, hv1, h1 σ G en H o.i _ fun v1 G1 H1 g1 e1 => h2 B G1 H1 σ (o.gr g1) (en.mono g1.g) _ fun v2 G2 H2 r2 M2 z o2 e2 hr2 => ?_⟩
  obtain rfl : v1 = x := e1
  obtain ⟨⟨c, hc, rfl⟩, rfl⟩ := z
  obtain rfl : v2 = yy c := hr2
  have z2 : EXD Γ M2 (tCall (spBN K R) [] E (tCons (tVar i) (tCons (tC v1) (tCons (tC (yy c)) tNil)))) D (fun a => rL K (f a)) := d_callNw (PP := PP c) hk hv (xa_cons x_c (xa_cons x_c xa_nil)) (fun ws G' ra => by
    obtain ⟨p, q', rfl, hp, hq⟩ := ra2 ra
    obtain rfl : p = v1 := hp
    obtain rfl : q' = yy c := hq
    exact hs c hc G') (fun ss h => hP c ss hc h)
  obtain ⟨v, hv3, z3⟩ := z2 B G2 H2 σ o2 (en.mono (g1.g.trans e2)) Q fun v G' H' r M' k1 k2 k3 k4 => q v G' H' r M' k1 k2 ((g1.g.trans e2).trans k3) k4
  rw [hv1] at hv3
  cases hv3
  exact z3
end
section
variable {Γ : Ctx} {te ta tb : TE} {r r1 : Rp} {K : PySem.W.Frag} {n : Nat} {a : Int}
theorem x_weak (h : EvX Γ te r) (hi : ∀ v G, r.p v G → r1.p v G) : EvX Γ te r1 := fun σ G en H e Q q => h σ G en H e Q fun v G2 H2 g hv => q v G2 H2 g (hi v G2 hv)
theorem x_shl1 (h : EvX Γ tb (nI n)) (hn : n ≤ 64) : EvX Γ (tOp (L2.rI CPow fun i j => .int (i * 2 ^ j.toNat)) (tC (.int 1)) tb) (nI (2 ^ n)) := x_is (x_I x_c h ⟨by omega, by omega, by decide⟩) (by rw [shl_nat])
theorem x_neg (h : EvX Γ te (rI a)) : EvX Γ (tUn (rU fun i => .int (-i)) te) (rI (-a)) := fun σ G en H e Q q => h σ G en H e _ fun v G2 H2 g hv => by
  obtain rfl : v = V.int a := hv
  exact ⟨a, rfl, q _ G2 H2 g rfl⟩
end
/-! ### try, its parts kept apart -/
def tTry (K : PySem.W.Frag) (c : Value) (i : Nat) (tb : WX → TS) (ts : Addr → Value → Option Addr → TS) (W : WX) : TS := fun D σ H => tb (wAs K c i ts W D) D σ H
theorem to_try {X : Cx} {st : Stmt} {K : PySem.W.Frag} {c : Value} {i : Nat} {tb : WX → TS} {ts : Addr → Value → Option Addr → TS} {W : WX} (h : PS X st (fun D σ H => tb (wAs K c i ts W D) D σ H)) : PS X st (tTry K c i tb ts W) := h
theorem w_tryK {W : WX} {Γ : Ctx} {M : List Re} {K : PySem.W.Frag} {c : Value} {i : Nat} {tb : WX → TS} {ts : Addr → Value → Option Addr → TS} {κ : Kn} (h : ∀ W', WP W' Γ M (tb W') { κ with ex := fun Γ' cls fs M' => ∃ b, PySem.W.exmOne K cls c = some b ∧
      (b = true → ∀ a d, (fs ≠ [] → d.isSome = true) → WP (fun _ _ _ _ => False) (Γ'.set i (some (rE a fs d))) M' (ts a cls d) { nx := fun Γ2 M2 => κ.nx (Γ2.set i none) M2, rt := κ.rt, bk := fun Γ2 M2 => κ.bk (Γ2.set i none) M2, ct := fun Γ2 M2 => κ.ct (Γ2.set i none) M2 }) ∧ (b = false → κ.ex Γ' cls fs M') }) : WP W Γ M (tTry K c i tb ts W) κ := w_try h
/-! ### lists of scalars of any kind, compared with themselves -/
inductive Sc where
  | i (n : Int)
  | b (c : Bool)
  | s (z : Str) (h : PyData.strOk z = true)
def rSc : Sc → Rp
  | .i n => rI n
  | .b c => rB c
  | .s z _ => rS z
def dSc : Sc → PyData
  | .i n => .int n
  | .b c => .bool c
  | .s z _ => .str z
theorem asd_sc {K : PySem.W.Frag} : ∀ a : Sc, AsD K (rSc a) (dSc a)
  | .i n => asd_int n
  | .b c => asd_bl c
  | .s z _ => asd_str z
theorem sh_sc : ∀ a : Sc, Sh 1 (dSc a)
  | .i n => sh_int n
  | .b c => ⟨by show PyData.canLay0 (.bool c) = true; unfold PyData.canLay0; rfl, by show PyData.depth (.bool c) ≤ 1; unfold PyData.depth; omega⟩
  | .s z h => ⟨by show PyData.canLay0 (.str z) = true; unfold PyData.canLay0; exact h, by show PyData.depth (.str z) ≤ 1; unfold PyData.depth; omega⟩
theorem eqv_sc : ∀ a : Sc, PyData.eqv (dSc a) (dSc a) = true
  | .i n => by simp [dSc, PyData.eqv]
  | .b c => by simp [dSc, PyData.eqv]
  | .s z _ => by simp [dSc, PyData.eqv]
theorem eqv_scs : ∀ l : List Sc, PyData.eqvAll (l.map dSc) (l.map dSc) = true
  | [] => by simp [PyData.eqvAll]
  | a :: l => by rw [List.map_cons, PyData.eqvAll, eqv_sc a, eqv_scs l]; rfl
theorem x_eqSelf {Γ : Ctx} {ta tb : TE} {K : PySem.W.Frag} (l : List Sc) (ha : EvX Γ ta (rL K (l.map rSc))) (hb : EvX Γ tb (rL K (l.map rSc))) : EvX Γ (tOp (rEqD K) ta tb) (rB true) := x_is (x_eqD ha hb (asd_list asd_sc l) (asd_list asd_sc l) ((sh_list sh_sc l).ok (by decide)) ((sh_list sh_sc l).ok (by decide))) (by rw [PyData.eqv, eqv_scs])
theorem x_neSelf {Γ : Ctx} {ta tb : TE} {K : PySem.W.Frag} (l : List Sc) (ha : EvX Γ ta (rL K (l.map rSc))) (hb : EvX Γ tb (rL K (l.map rSc))) : EvX Γ (tOp (rNeD K) ta tb) (rB false) := x_is (x_neD ha hb (asd_list asd_sc l) (asd_list asd_sc l) ((sh_list sh_sc l).ok (by decide)) ((sh_list sh_sc l).ok (by decide))) (by rw [PyData.eqv, eqv_scs]; rfl)
end Mu

namespace Mu
open PySem PySem.Spec PyProof.Rows L2 Evl
/-! ### operators of one's own that may raise, within a try -/
section
variable {X : Cx} {CX : CXT} {k : Nat} {f C : Addr} {fd : FuncData} {ps : List Str} {sp : Sp} {E : L2.St → XK} {a b : Expr} {ta tb : TE} {pos : Pos}
theorem run_fnAt {E : XK} {A : Around} {pins : List (Addr × Obj)} {σ : L2.St} {H : Hp} {s : Shared} {Q : VK} {us : List Value} {vs : List V} (hA : A.frames = X.A.frames) (F : FnOk X.prog X.w X.K X.mg X.base CX k f fd ps sp) (hr : Room k A) (hb : Binds X.K fd ps []) (hx : PassesAt CX X σ E)
    (I : Inv X pins σ H s) (r : Vals vs us) (h : sp vs H Q E) : wpAny (model X.prog X.w) A (call (.ref f) us) (EP X pins σ Q) X.xe s := by
  have hl : (us ++ []).length = ps.length := by rw [List.append_nil, ← r.length]; exact F.len _ _ _ _ h
  have e := I.env0
  have e0 : Env0 X.prog X.w X.K X.mg X.base A X.stack s H := ⟨by rw [hA]; exact e.frames, e.mod, e.bs, e.bsz, e.funs, e.frf, e.hok, e.bare⟩
  have hbb := hb s us I.kIn hl
  rw [List.append_nil] at hbb
  refine wpAny_call (codeAny_mono (F.run A X.stack s H ⟨us, []⟩ us vs Q E hr e0 hbb r h) fun r s' hq => ?_)
  cases r with
  | error e => exact hx pins H s e s' I hq
  | ok fl =>
    cases fl with
    | ret u => exact I.after hq
    | next => exact False.elim hq
    | brk => exact False.elim hq
    | cont => exact False.elim hq
def tOwn2S (C : Addr) (sp : Sp) (E : L2.St → XK) (ta tb : TE) : TE := fun σ H Q => tOp (rOwn2 C sp (E σ)) ta tb σ H Q
theorem pe_opOwnS {op : Operator} {m : Str} (hm : PySem.dunder op.info.2 = m) (d : Dun X.K C m f) (hc : PySem.W.selfFirst X.K C = true) (F : FnOk X.prog X.w X.K X.mg X.base CX k f fd ps sp) (hr : Room k X.A) (hb : Binds X.K fd ps []) (hx : ∀ σ, PassesAt CX X σ (E σ)) (ha : PE X a ta) (hbe : PE X b tb) : PE X (.BinOp a op b pos) (tOwn2S C sp E ta tb) := by
  refine ⟨fun pins s σ H Q I h => ?_⟩
  refine wpAny_BinOp (binT ha hbe I h fun v u s2 x y H2 I rx ry q => ?_)
  obtain ⟨a, b, dx, fs, dy, gs, rfl, rfl, ha, hb', q⟩ := q
  cases rx
  cases ry
  obtain ⟨mA, J, _⟩ := ins_get I.hok ha
  obtain ⟨mB, J', _⟩ := ins_get I.hok hb'
  obtain ⟨od, J, _⟩ := J.look
  obtain ⟨od', J', _⟩ := J'.look
  obtain ⟨m0, hF⟩ := I.fr
  subst hm
  refine PySem.W.binop_K hF I.ok.mod.kin J J'.type hc d.at_ d.fn ?_
  exact wpAny_mono (run_fnAt (vs := [.ref a, .ref b]) rfl F hr hb (hx σ) I (.cons rfl (.cons rfl .nil)) q) (fun u s' h => ep_back h) (fun _ _ z => z)
theorem pe_cmpOwnS {op : CmpOp} {m : Str} (hm : (cmpInfo op).2.1 = m) (hop : ∀ a b, compareOp op a b = richCompare op a b) (d : Dun X.K C m f) (F : FnOk X.prog X.w X.K X.mg X.base CX k f fd ps sp) (hr : Room k X.A) (hb : Binds X.K fd ps []) (hx : ∀ σ, PassesAt CX X σ (E σ)) (ha : PE X a ta) (hbe : PE X b tb) (hmk : behindInMarks op b = false) : PE X (.Compare a [op] [b] pos) (tOwn2S C sp E ta tb) := by
  refine ⟨fun pins s σ H Q I h => ?_⟩
  refine wpAny_Compare1 (binT ha hbe I h fun v u s2 x y H2 I rx ry q => ?_) hmk
  obtain ⟨a, b, dx, fs, dy, gs, rfl, rfl, ha, hb', q⟩ := q
  cases rx
  cases ry
  obtain ⟨mA, J, _⟩ := ins_get I.hok ha
  obtain ⟨mB, J', _⟩ := ins_get I.hok hb'
  obtain ⟨od, J, _⟩ := J.look
  obtain ⟨od', J', _⟩ := J'.look
  obtain ⟨m0, hF⟩ := I.fr
  subst hm
  rw [hop]
  refine PySem.W.cmp_K (tb := .ref C) hr.units0 hF I.ok.mod.kin J J'.type (by simp [PySem.W.notFirst]) d.at_ d.fn ?_
  exact wpAny_mono (run_fnAt (vs := [.ref a, .ref b]) rfl F hr hb (hx σ) I (.cons rfl (.cons rfl .nil)) q) (fun u s' h => ep_back h) (fun _ _ z => z)
end
section
variable {W : WX} {Γ : Ctx} {M : List Re} {ta tb : TE} {t1 t2 : TS} {o : Out} {κ : Kn} {R : List V → Hp → Out → Prop} {K : PySem.W.Frag} {C : Addr} {m m' : List Nat}
theorem x_own2X (ha : EvX Γ ta (rTab K C m)) (hb : EvX Γ tb (rTab K C m')) (hs : ∀ x y G, (rTab K C m).p x G → (rTab K C m').p y G → R [x, y] G o) : EXX W Γ M (tOwn2S C (spO R) (WE W) ta tb) o := fun B G H σ ok en Q q1 q2 => ha σ G en H ok.i _ fun x G2 H2 g hx => hb σ G2 (en.mono g.g) H2 g.i _ fun y G3 H3 g3 hy => by
  have hx3 := (rTab K C m).mono g3.g hx
  obtain ⟨a, dx, t, c, rfl, h2, _⟩ := id hx3
  obtain ⟨a', dx', t', c', rfl, h2', _⟩ := id hy
  exact ⟨a, a', dx, _, dx', _, rfl, rfl, g3.i _ _ h2, g3.i _ _ h2', G3, o, g3.i, hs _ _ G3 hx3 hy, fun r e v G4 H4 g4 hv => q1 r e v G4 H4 (ok.gr ((g.trans g3).trans g4)) ((g.g.trans g3.g).trans g4.g) hv, fun cls fs e d G4 H4 g4 hx => q2 cls fs e d G4 H4 (ok.gr ((g.trans g3).trans g4)) ((g.g.trans g3.g).trans g4.g) hx⟩
/-- after a statement: what holds, by data -/
theorem w_cut {α : Type} (P : α → Prop) (Γf : α → Ctx) (h : WP W Γ M t1 { κ with nx := fun Γ' M' => ∃ a, P a ∧ Sub Γ' (Γf a) ∧ M' = M }) (hn : ∀ a, P a → WP W (Γf a) M t2 κ) : WP W Γ M (tSeq t1 t2) κ :=
  w_seq (w_imp h (fun Γ' M' ⟨a, pa, s, e⟩ => by subst e; exact w_sub s (hn a pa)) (fun _ _ z => z) (fun _ _ z => z) (fun _ _ z => z) (fun _ _ _ _ z => z))
end
end Mu

namespace Mu
open PySem PySem.Spec PyProof.Rows L2 Evl
/-! ### new lists of our own, their items -/
section
variable {B : Ba} {G H G2 H2 : Hp} {M : List Re} {R : Re}
theorem Ok.add2 (o : Ok B G H M) (o2 : Ok B G2 H2 M) (hd : R.ft.Nodup) (hn : ∀ a ∈ R.ft, H a = none ∧ G2 a = none) (m : R.p G2 H2) : Ok B G2 H2 (M ++ [R]) := by
  refine ⟨o2.g, o2.l, o2.h, o2.i, o2.n, o2.k, fun r hr => ?_, fun a ha => ?_, ?_, fun r hr a ha => ?_⟩
  · rcases List.mem_append.mp hr with q | q
    · exact o2.m r q
    · rw [List.mem_singleton.mp q]; exact m
  · rw [feet_snoc] at ha
    rcases List.mem_append.mp ha with q | q
    · exact o2.z a q
    · exact (hn a q).2
  · rw [feet_snoc]
    refine List.nodup_append.mpr ⟨o.d, hd, fun a ha b hb e => ?_⟩
    subst e
    obtain ⟨r, hr, hf⟩ := List.mem_flatMap.mp ha
    obtain ⟨u, z⟩ := r.at_ (o.m r hr) a hf
    rw [(hn a hb).1] at z; cases z
  · rcases List.mem_append.mp hr with q | q
    · exact o.f r q a ha
    · rw [List.mem_singleton.mp q] at ha
      refine .inl ?_
      cases z : B.H0 a with
      | none => rfl
      | some u =>
        by_cases c : a ∈ B.F
        · obtain ⟨u2, z2⟩ := o.k a c
          rw [(hn a ha).1] at z2; cases z2
        · have := o.h a u z c
          rw [(hn a ha).1] at this; cases this
end
section
variable {α : Type} {D : α → Prop} {W : WX} {Γ : Ctx} {M : List Re} {te ta tb tl : TE} {rs : List Rp} {K : PySem.W.Frag} {b : Addr} {i j k m n : Nat} {E : XK} {κ : Kn} {p : Addr}
/-- xs[j] = a new list of ints, made of what stands, xs itself among it -/
theorem w_setNI {l : List Nat} (k : Nat) (hk : M[k]? = some (lstR p rs)) (hi : Γ[i]? = some (some (rV (.ref p)))) (h : EvNX (Γ.set i (some (rL K rs))) te (l.map nI)) (hb : EvX Γ tb (nI j)) (hj : j < rs.length) (hn : κ.nx Γ (M.set k (lstR p (rs.set j (rLn K l))))) : WP W Γ M (tAsg te (gSub (tVar i) tb rSetL)) κ := fun B G H σ D o en d => by
  have hm := List.mem_of_getElem? hk
  obtain ⟨ws, h1, h2⟩ := o.m _ hm
  have gp : G p = none := o.z p (mem_feet hm (List.mem_singleton.mpr rfl))
  have e : Ex G (upd G p (.lst ws)) := Ex.new gp
  obtain ⟨v, hv1, hv2⟩ := en.get hi
  obtain rfl : v = V.ref p := hv2
  have z := En.set (r := rL K rs) (v := .ref p) ⟨p, ws, rfl, upd_same, h2.mono e⟩ i (en.mono e)
  have es : σ.set i (some (.ref p)) = σ := by
    apply List.ext_getElem?
    intro j
    by_cases c : i = j
    · subst c
      rw [List.getElem?_set_self', hv1]; rfl
    · rw [List.getElem?_set_ne c]
  rw [es] at z
  refine s_setNI (K := K) o.i h1 gp h2 (h σ _ z) (ev_var hv1) (EvD.ev (hb σ G en)) hj fun ws' G3 H3 e3 hh i3 n3 gp3 hp3 ra3 => ?_
  exact d.nx σ G3 H3 _ _ (o.chg hk (R' := lstR p (rs.set j (rLn K l))) rfl rfl e3 (fun a u z n => hh a u z (fun q => n (List.mem_singleton.mpr q))) i3 n3 ⟨ws', hp3, ra3⟩) (en.mono e3) hn
/-- the answer is a new list of our own, by data -/
def EXL (Γ : Ctx) (M : List Re) (te : TE) (D : α → Prop) (f : α → List Rp) : Prop := EX Γ M te (fun r M' => ∃ a p, D a ∧ r = rV (.ref p) ∧ M' = M ++ [lstR p (f a)])
theorem l_of (h : EvNX Γ te rs) : EXL (α := Unit) Γ M te (fun _ => True) (fun _ => rs) := fun B G H σ o en Q q => h σ G en H o.i _ fun p vs G2 H2 g hp gp h2 ra => q _ G2 H2 _ _ ⟨(), p, trivial, rfl, rfl⟩ (o.add2 (o.gr g) (R := lstR p rs) (by show [_].Nodup; simp) (fun a ha => by rw [List.mem_singleton.mp ha]; exact ⟨hp, gp⟩) ⟨vs, h2, ra⟩) g.g rfl
theorem w_setL {f : α → List Rp} (h : EXL Γ M te D f) (hn : ∀ a p, D a → κ.nx (Γ.set i (some (rV (.ref p)))) (M ++ [lstR p (f a)])) : WP W Γ M (tAsg te (gName i)) κ := w_setE h fun r M' z => by
  obtain ⟨a, p, ha, rfl, rfl⟩ := z
  exact hn a p ha
theorem w_retL {f : α → List Rp} (h : EXL Γ M te D f) (hn : ∀ a p, D a → κ.rt (rV (.ref p)) (M ++ [lstR p (f a)])) : WP W Γ M (tRet te) κ := w_retE h fun r M' z => by
  obtain ⟨a, p, ha, rfl, rfl⟩ := z
  exact hn a p ha
theorem Ok.bx {B : Ba} {G H G2 H2 : Hp} (o : Ok B G H M) (hk : M[k]? = some (boxR K b)) (g : GrB b G H G2 H2) (hb : Box K G2 H2 b) : Ok B G2 H2 M := o.grB hk g hb
theorem l_callN {ta : TA} {R : List V → Hp → (List Rp → Prop) → Prop} {f : α → List Rp} {PP : List Rp → Prop} (hk : M[k]? = some (boxR K b)) (hv : Γ[i]? = some (some (rV (.ref b)))) (h : EvAX Γ ta rs) (hs : ∀ ws G, RA G ws rs → R ws G PP) (hP : ∀ ss, PP ss → ∃ a, D a ∧ ss = f a) : EXL Γ M (tCall (spBN K R) [] E (tCons (tVar i) ta)) D f := fun B G H σ o en Q q => by
  obtain ⟨v, hv1, hv2⟩ := en.get hv
  obtain rfl : v = V.ref b := hv2
  have hm := List.mem_of_getElem? hk
  have gb : G b = none := o.z b (mem_feet hm (List.mem_singleton.mpr rfl))
  refine (ebn_call (P := PP) hv1 (h σ G en) fun ws G2 _ ra => hs ws G2 ra) H o.i gb (o.m _ hm) _ fun ss p vs G2 H2 hp g hb2 hpn gp h2 ra => ?_
  obtain ⟨a, ha, rfl⟩ := hP _ hp
  exact q _ G2 H2 _ _ ⟨a, p, ha, rfl, rfl⟩ (o.add2 (o.grB hk g hb2) (R := lstR p (f a)) (by show [_].Nodup; simp) (fun x hx => by rw [List.mem_singleton.mp hx]; exact ⟨hpn, gp⟩) ⟨vs, h2, ra⟩) g.g rfl
/-! arguments that are new lists -/
def NL (H G' H' : Hp) (v : V) (rs : List Rp) : Prop := ∃ p ws, v = .ref p ∧ H p = none ∧ G' p = none ∧ H' p = some (.lst ws) ∧ RA G' ws rs
def EXAN (Γ : Ctx) (M : List Re) (ta : TA) (D : α → Prop) (F : α → List (List Rp)) : Prop := ∀ B G H σ, Ok B G H M → En σ G Γ → ∀ Q : List V → Hp → Prop, (∀ vs G' H' a, D a → Ok B G' H' M → Ex G G' → (∀ x o, H x = some o → x ∉ feet M → H' x = some o) → (∀ x o, H x = some o → G x = none → G' x = none) → Paired (NL H G' H') vs (F a) → Q vs H') → ta σ H Q
theorem an_nil : EXAN (α := Unit) Γ M tNil (fun _ => True) (fun _ => []) := fun B G H σ o en Q q => q [] G H () trivial o (Ex.refl _) (fun _ _ z _ => z) (fun _ _ _ y => y) .nil
theorem feet_at {B : Ba} {G H : Hp} (o : Ok B G H M) {x : Addr} (h : x ∈ feet M) : ∃ u, H x = some u := by
  obtain ⟨r, hr, hf⟩ := List.mem_flatMap.mp h
  exact r.at_ (o.m r hr) x hf
theorem an_cons {tr : TA} {F : α → List (List Rp)} (h : EvNX Γ te rs) (hr : EXAN Γ M tr D F) : EXAN Γ M (tCons te tr) D (fun a => rs :: F a) := fun B G H σ o en Q q =>
  h σ G en H o.i _ fun p vs G2 H2 g hp gp h2 ra => hr B G2 H2 σ (o.gr g) (en.mono g.g) _ fun ws G3 H3 a ha o3 e3 k3 n3 pr => by
    have hpf : p ∉ feet M := fun z => by
      obtain ⟨u, hu⟩ := feet_at o z
      rw [hp] at hu; cases hu
    refine q _ G3 H3 a ha o3 (g.g.trans e3) (fun x u z n => k3 x u (g.h x u z) n) (fun x u z y => n3 x u (g.h x u z) (g.n x u z y)) (.cons ⟨p, vs, rfl, hp, n3 p _ h2 gp, k3 p _ h2 hpf, ra.mono e3⟩ (Paired.mono (fun v r z => ?_) pr))
    obtain ⟨p', ws', e1, e2, e4, e5, e6⟩ := z
    exact ⟨p', ws', e1, fresh_back g.h e2, e4, e5, e6⟩
/-- the last one with draws -/
theorem an_callN {ta : TA} {R : List V → Hp → (List Rp → Prop) → Prop} {f : α → List Rp} {PP : List Rp → Prop} (hk : M[k]? = some (boxR K b)) (hv : Γ[i]? = some (some (rV (.ref b)))) (h : EvAX Γ ta rs) (hs : ∀ ws G, RA G ws rs → R ws G PP) (hP : ∀ ss, PP ss → ∃ a, D a ∧ ss = f a) : EXAN Γ M (tCons (tCall (spBN K R) [] E (tCons (tVar i) ta)) tNil) D (fun a => [f a]) := fun B G H σ o en Q q => by
  obtain ⟨v, hv1, hv2⟩ := en.get hv
  obtain rfl : v = V.ref b := hv2
  have hm := List.mem_of_getElem? hk
  have gb : G b = none := o.z b (mem_feet hm (List.mem_singleton.mpr rfl))
  refine (ebn_call (P := PP) hv1 (h σ G en) fun ws G2 _ ra => hs ws G2 ra) H o.i gb (o.m _ hm) _ fun ss p vs G2 H2 hp g hb2 hpn gp h2 ra => ?_
  obtain ⟨a, ha, rfl⟩ := hP _ hp
  exact q _ G2 H2 a ha (o.grB hk g hb2) g.g (fun x u z n => g.h x u z (fun e => n (by rw [e]; exact mem_feet hm (List.mem_singleton.mpr rfl)))) g.n (.cons ⟨p, vs, rfl, hpn, gp, h2, ra⟩ .nil)
theorem paired_get {α β : Type} {P : α → β → Prop} : ∀ {l : List α} {m : List β} {k : Nat} {y : β}, Paired P l m → m[k]? = some y → ∃ x, l[k]? = some x ∧ P x y
  | _, _, k, y, .nil, h => by simp at h
  | _, _, 0, y, .cons h1 _, h => by
    obtain rfl : _ = y := by simpa using h
    exact ⟨_, rfl, h1⟩
  | _, _, k + 1, y, .cons _ t, h => by
    obtain ⟨x, h2, h3⟩ := paired_get t (by simpa using h)
    exact ⟨x, by simpa using h2, h3⟩
theorem paired_len {α β : Type} {P : α → β → Prop} : ∀ {l : List α} {m : List β}, Paired P l m → l.length = m.length
  | _, _, .nil => rfl
  | _, _, .cons _ t => by rw [List.length_cons, List.length_cons, paired_len t]
/-- [a new list, ..][j] -/
theorem l_ix {ta : TA} {F : α → List (List Rp)} {f : α → List Rp} (h : EXAN Γ M ta D F) (hb : EvX Γ tb (nI j)) (hf : ∀ a, D a → (F a)[j]? = some (f a)) (hl : ∀ a, D a → (F a).length ≤ 100000) : EXL Γ M (tOp (rIxL K) (tLst ta) tb) D f := fun B G H σ o en Q q => h B G H σ o en _ fun vs G2 H2 a ha o2 e2 k2 n2 pr => ⟨sz_of (by rw [paired_len pr]; exact hl a ha), fun q0 hq => hb σ G2 (en.mono e2) _ (o2.i.trans (Ex.new hq)) _ fun y G4 H4 g4 hy => by
  obtain rfl : y = V.int (j : Int) := hy
  obtain ⟨v, hv, p, ws, rfl, e3, e4, e5, e6⟩ := paired_get pr (hf a ha)
  have pq : p ≠ q0 := fun e => by rw [e, hq] at e5; cases e5
  have hp4 : upd H2 q0 (.lst vs) p = some (.lst ws) := by rw [upd_ne pq]; exact e5
  refine ⟨q0, vs, (j : Int), .ref p, rfl, rfl, sq_of (g4.h _ _ upd_same), atI_nat hv, ?_⟩
  exact q _ G4 H4 _ _ ⟨a, p, ha, rfl, rfl⟩ (o.add2 ((o2.ex (Ex.new hq)).gr g4) (R := lstR p (f a)) (by show [_].Nodup; simp) (fun x hx => by rw [List.mem_singleton.mp hx]; exact ⟨e3, g4.n p _ hp4 e4⟩) ⟨ws, g4.h _ _ hp4, e6.mono g4.g⟩) (e2.trans g4.g) rfl⟩
/-- after a statement: what holds, by data, things that may change too -/
theorem w_cutM {t1 t2 : TS} (P : α → Prop) (Γf : α → Ctx) (Mf : α → List Re) (h : WP W Γ M t1 { κ with nx := fun Γ' M' => ∃ a, P a ∧ Sub Γ' (Γf a) ∧ M' = Mf a }) (hn : ∀ a, P a → WP W (Γf a) (Mf a) t2 κ) : WP W Γ M (tSeq t1 t2) κ :=
  w_seq (w_imp h (fun Γ' M' ⟨a, pa, s, e⟩ => by subst e; exact w_sub s (hn a pa)) (fun _ _ z => z) (fun _ _ z => z) (fun _ _ z => z) (fun _ _ _ _ z => z))
end
end Mu

namespace Mu
open PySem PySem.Spec PyProof.Rows L2 Evl
/-! ### pairs taken apart: for x, y in .. -/
abbrev gP (K : PySem.W.Frag) (j1 j2 : Nat) : TG := gTup K 2 (gCons (gName j1) (gCons (gName j2) gNil))
theorem gP_run {K : PySem.W.Frag} {j1 j2 : Nat} {r1 r2 : Rp} {v : V} {G H : Hp} {σ : L2.St} {Q : L2.St → Hp → Prop} (h : (rT K [r1, r2]).p v G) (e : Ex G H) (k : ∀ x y, r1.p x G → r2.p y G → Q ((σ.set j1 (some x)).set j2 (some y)) H) : gP K j1 j2 v σ H Q := by
  obtain ⟨a, vs, rfl, h1, h2⟩ := h
  obtain ⟨x, y, rfl, hx, hy⟩ := ra2 h2
  exact ⟨a, [x, y], rfl, ex_t e h1, rfl, x, [y], rfl, y, [], rfl, rfl, k x y hx hy⟩
section
variable {α β : Type} {K : PySem.W.Frag} {σ : L2.St} {G H : Hp} {te tl : TE} {t : TT} {D : Ends} {tu : TS} {vs : List Nat} {j1 j2 : Nat}
theorem s_forLP (l : List α) (r1 r2 : α → Rp) (e : Ex G H) (h : EvD tl σ G (rL K (l.map fun a => rT K [r1 a, r2 a]))) (Pv : Hp → Nat → L2.St → Hp → Prop) (h0 : ∀ G1 H1, Gr G H G1 H1 → Pv G1 0 σ H1) (hk : ∀ G1 i σ' H', Pv G1 i σ' H' → Ex G1 H')
    (hs : ∀ G1 i a x y σ' H', Ex G G1 → l[i]? = some a → (r1 a).p x G1 → (r2 a).p y G1 → Pv G1 i σ' H' → tu { D with nx := Pv G1 (i + 1), ct := Pv G1 (i + 1), bk := D.nx } ((σ'.set j1 (some x)).set j2 (some y)) H') (hd : ∀ G1 σ' H', Ex G G1 → Pv G1 l.length σ' H' → D.nx σ' H') :
    tFor (iList K tl) (gP K j1 j2) tu D σ H := h H e _ fun v G1 H1 g1 ⟨a, vs, hv, h1, h2⟩ => by
  subst hv
  have el : vs.length = l.length := by rw [h2.len, List.length_map]
  refine ⟨a, rfl, ⟨vs, sq_of (g1.i _ _ h1)⟩, for_list (xs := vs) (Pv G1) (h0 G1 H1 g1) (fun i σ' H' _ p => sq_of ((hk G1 i σ' H' p) _ _ h1)) (fun i x σ' H' hi p => ?_) (fun σ' H' p => hd G1 σ' H' g1.g (el ▸ p))⟩
  obtain ⟨r, hr, hx⟩ := h2.getV hi
  rw [List.getElem?_map] at hr
  cases q2 : l[i]? with
  | none => rw [q2] at hr; cases hr
  | some b =>
    rw [q2] at hr
    have hr' : rT K [r1 b, r2 b] = r := Option.some.inj hr
    subst hr'
    exact gP_run hx (hk G1 i σ' H' p) fun x y h3 h4 => hs G1 i b x y σ' H' g1.g q2 h3 h4 p
theorem en_lcLP (l : List α) (r1 r2 : α → Rp) (f : α → Bool) (rr : α → Rp) (h : EvD tl σ G (rL K (l.map fun a => rT K [r1 a, r2 a]))) (hz : l.length ≤ 40000) (hw : ∀ x y, wipe (((wipe σ vs).set j1 (some x)).set j2 (some y)) vs = wipe σ vs)
    (ht : ∀ a x y G1, a ∈ l → Ex G G1 → (r1 a).p x G1 → (r2 a).p y G1 → EvT t (((wipe σ vs).set j1 (some x)).set j2 (some y)) G1 (f a)) (he : ∀ a x y G1, a ∈ l → f a = true → Ex G G1 → (r1 a).p x G1 → (r2 a).p y G1 → EvD te (((wipe σ vs).set j1 (some x)).set j2 (some y)) G1 (rr a)) :
    EvN (tLc (iList K tl) (gP K j1 j2) t te vs) σ G ((l.filter f).map rr) := fun H0 e Q q => h H0 e _ fun v G1 H1 g1 ⟨a, xs, hv, h1, h2⟩ => by
  subst hv
  refine ⟨a, rfl, ⟨xs, sq_of (g1.i _ _ h1)⟩, fun Dl hD => lc_list (xs := xs) (fun i H' => Cm G1 H1 Dl (((l.take i).filter f).map rr) H') (cm_start g1.i hD) (fun i H' _ p => ?_) (fun i x H' hi p => ?_) (fun H' p => ?_)⟩
  · obtain ⟨_, G', ws, g, _, _, _⟩ := p
    exact sq_of ((g.g.trans g.i) _ _ h1)
  · obtain ⟨r, hr, hx⟩ := h2.getV hi
    rw [List.getElem?_map] at hr
    cases q2 : l[i]? with
    | none => rw [q2] at hr; cases hr
    | some b =>
      rw [q2] at hr
      have hr' : rT K [r1 b, r2 b] = r := Option.some.inj hr
      subst hr'
      have hm : b ∈ l := List.mem_of_getElem? q2
      have eH : Ex G1 H' := by
        obtain ⟨_, G', ws, g, _, _, _⟩ := id p
        exact g.g.trans g.i
      exact gP_run hx eH fun x y h3 h4 => ⟨hw x y, cm_step q2 hz p (fun G2 e1 e2 => ht b x y G2 hm (g1.g.trans e1) ((r1 b).mono e1 h3) ((r2 b).mono e1 h4)) (fun hf G2 e1 e2 => he b x y G2 hm hf (g1.g.trans e1) ((r1 b).mono e1 h3) ((r2 b).mono e1 h4))⟩
  · obtain ⟨p1, G', ws, g, hG, hD', ra⟩ := p
    have el : xs.length = l.length := by rw [h2.len, List.length_map]
    rw [el, List.take_length] at ra
    exact q Dl ws G' H' (g1.trans g) (fresh_back g1.h p1) hG hD' ra
end
section
variable {W : WX} {Γ : Ctx} {M : List Re} {te tl : TE} {t : TT} {tu : TS} {κ : Kn} {K : PySem.W.Frag} {α β : Type} {j1 j2 j3 : Nat} {r1 r2 r3 : Rp}
theorem wipe_turn2 (σ : L2.St) {vs : List Nat} (h1 : j1 ∈ vs) (h2 : j2 ∈ vs) (x y : V) : wipe (((wipe σ vs).set j1 (some x)).set j2 (some y)) vs = wipe σ vs := by rw [wipe_in _ h2, wipe_in _ h1, wipe_idem]
theorem xn_lcLP {vs : List Nat} (l : List α) (r1 r2 : α → Rp) (f : α → Bool) (rr : α → Rp) (h : EvX Γ tl (rL K (l.map fun a => rT K [r1 a, r2 a]))) (hz : l.length ≤ 40000) (ht : ∀ a, a ∈ l → EvTX (((wipeC Γ vs).set j1 (some (r1 a))).set j2 (some (r2 a))) t (f a)) (he : ∀ a, a ∈ l → f a = true → EvX (((wipeC Γ vs).set j1 (some (r1 a))).set j2 (some (r2 a))) te (rr a)) (h1 : j1 ∈ vs := by simp) (h2 : j2 ∈ vs := by simp) : EvNX Γ (tLc (iList K tl) (gP K j1 j2) t te vs) ((l.filter f).map rr) := fun σ G en =>
  en_lcLP l r1 r2 f rr (h σ G en) hz (wipe_turn2 σ h1 h2) (fun a x y G1 ha e hx hy => ht a ha _ G1 ((en_at (en.mono e) hx).set hy j2)) (fun a x y G1 ha hf e hx hy => he a ha hf _ G1 ((en_at (en.mono e) hx).set hy j2))
theorem xn_lcLP0 {vs : List Nat} (l : List α) (r1 r2 : α → Rp) (rr : α → Rp) (h : EvX Γ tl (rL K (l.map fun a => rT K [r1 a, r2 a]))) (hz : l.length ≤ 40000) (he : ∀ a, a ∈ l → EvX (((wipeC Γ vs).set j1 (some (r1 a))).set j2 (some (r2 a))) te (rr a)) (h1 : j1 ∈ vs := by simp) (h2 : j2 ∈ vs := by simp) : EvNX Γ (tLc (iList K tl) (gP K j1 j2) tYes te vs) (l.map rr) :=
  xn_is (xn_lcLP l r1 r2 (fun _ => true) rr h hz (fun _ _ => t_yes) (fun a ha _ => he a ha) h1 h2) filter_yes
theorem w_forLP (l : List β) (r1 r2 : β → Rp) (P : Nat → α → Prop) (Γi : Nat → α → Ctx) (Mi : Nat → α → List Re) (h : EvX Γ tl (rL K (l.map fun a => rT K [r1 a, r2 a]))) (a0 : α) (p0 : P 0 a0) (s0 : Sub Γ (Γi 0 a0)) (m0 : M = Mi 0 a0)
    (hs : ∀ i a x, l[i]? = some x → P i a → WP W (((Γi i a).set j1 (some (r1 x))).set j2 (some (r2 x))) (Mi i a) tu (kLoop (LI P Γi Mi (i + 1)) κ)) (hd : ∀ a, P l.length a → κ.nx (Γi l.length a) (Mi l.length a)) : WP W Γ M (tFor (iList K tl) (gP K j1 j2) tu) κ := fun B G H σ D o en d => by
  refine Mu.s_forLP l r1 r2 o.i (h σ G en) (fun G1 i σ' H' => Ex B.Gl G1 ∧ Pv (B.low G1) (LI P Γi Mi i) σ' H') (fun G1 H1 g => ⟨o.l.trans g.g, G1, Γ, M, (o.gr g).low (Ex.refl _), en.mono g.g, a0, p0, s0, m0⟩) (fun G1 i σ' H' ⟨_, G2, _, _, o2, _⟩ => o2.l.trans o2.i) (fun G1 i x y z σ' H' e hi hy hz ⟨eb, G2, Γ1, M1, o1, en1, a, pa, sa, ma⟩ => ?_) (fun G1 σ' H' _ ⟨eb, G2, Γ1, M1, o1, en1, a, pa, sa, ma⟩ => ?_)
  · subst ma
    have d2 := (d.low eb).loop (I := LI P Γi Mi (i + 1))
    exact hs i a x hi pa (B.low G1) G2 H' _ _ o1 (((en1.weak sa).set ((r1 x).mono o1.l hy) j1).set ((r2 x).mono o1.l hz) j2) ⟨fun σ G H Γ M o en z => ⟨eb, d2.nx σ G H Γ M o en z⟩, d2.rt, d2.bk, fun σ G H Γ M o en z => ⟨eb, d2.ct σ G H Γ M o en z⟩, d2.ex⟩
  · subst ma
    exact d.nx _ G2 H' _ _ (o1.up eb) (en1.weak sa) (hd a pa)
/-- a, b, c = e -/
theorem w_un3 (h : EvX Γ te (rT K [r1, r2, r3])) (hn : κ.nx (((Γ.set j1 (some r1)).set j2 (some r2)).set j3 (some r3)) M) : WP W Γ M (tAsg te (gTup K 3 (gCons (gName j1) (gCons (gName j2) (gCons (gName j3) gNil))))) κ := fun B G H σ D o en d =>
  h σ G en H o.i _ fun v G2 H2 g hv => by
    obtain ⟨a, vs, rfl, h1, h2⟩ := hv
    cases h2 with
    | cons hx h2 =>
      obtain ⟨y, z, rfl, hy, hz⟩ := ra2 h2
      exact ⟨a, _, rfl, ex_t g.i h1, rfl, _, _, rfl, y, _, rfl, z, [], rfl, rfl, d.nx _ G2 H2 _ M (o.gr g) ((((en.mono g.g).set hx j1).set hy j2).set hz j3) hn⟩
end
end Mu

namespace Mu
open PySem PySem.Spec PyProof.Rows L2 Evl
/-! ### comprehensions with draws in their items -/
section
variable {α : Type} {D : α → Prop} {W : WX} {Γ : Ctx} {M : List Re} {te ta tb tl : TE} {K : PySem.W.Frag} {b : Addr} {i j k m n : Nat} {κ : Kn} {vs : List Nat} {f : α → Rp}
/-- between two turns: l has been drawn -/
def Dc (B : Ba) (G : Hp) (M : List Re) (Dl : Addr) (D : α → Prop) (f : α → Rp) (i : Nat) (H' : Hp) : Prop := ∃ (G' : Hp) (l : List α), Ex G G' ∧ l.length = i ∧ (∀ a ∈ l, D a) ∧ Ok B G' H' (M ++ [lstR Dl (l.map f)])
theorem dc_start {B : Ba} {G H : Hp} {Dl : Addr} (o : Ok B G H M) (hD : H Dl = none) : Dc B G M Dl D f 0 (upd H Dl (.lst [])) :=
  ⟨G, [], Ex.refl _, rfl, fun a ha => (nomatch ha), o.add2 (o.ex (Ex.new hD)) (R := lstR Dl []) (by show [_].Nodup; simp) (fun x hx => by rw [List.mem_singleton.mp hx]; exact ⟨hD, fresh_back o.i hD⟩) ⟨[], upd_same, .nil⟩⟩
theorem dc_step {B : Ba} {G H' : Hp} {Dl : Addr} {σ2 : L2.St} {Γ2 : Ctx} (hz : i < 40000) (p : Dc B G M Dl D f i H') (en : ∀ G', Ex G G' → En σ2 G' Γ2) (he : ∀ R, EXD Γ2 (M ++ [R]) te D f) :
    te σ2 H' fun y H4 => ∃ acc, H4 Dl = some (.lst acc) ∧ acc.length < sizeLine ∧ Dc B G M Dl D f (i + 1) (upd H4 Dl (.lst (acc ++ [y]))) := by
  obtain ⟨G', l, e, hl, hD, o⟩ := p
  refine he (lstR Dl (l.map f)) B G' H' σ2 o (en G' e) _ fun v G2 H2 r M' z o2 e2 hr => ?_
  obtain ⟨⟨a, ha, rfl⟩, rfl⟩ := z
  have hk : (M ++ [lstR Dl (l.map f)])[M.length]? = some (lstR Dl (l.map f)) := by simp
  have hm := List.mem_of_getElem? hk
  obtain ⟨ws, h1, h2⟩ := o2.m _ hm
  have gD : G2 Dl = none := o2.z Dl (mem_feet hm (List.mem_singleton.mpr rfl))
  have hlen : ws.length = i := by rw [h2.len, List.length_map, hl]
  refine ⟨ws, h1, sz_lt (by omega), G2, l ++ [a], e.trans e2, by rw [List.length_append, hl]; rfl, fun x hx => ?_, ?_⟩
  · rcases List.mem_append.mp hx with q | q
    · exact hD x q
    · rw [List.mem_singleton.mp q]; exact ha
  · have o3 := o2.chg hk (R' := lstR Dl ((l ++ [a]).map f)) rfl rfl (Ex.refl G2) (H2 := upd H2 Dl (.lst (ws ++ [v]))) (fun x u z n => by rw [upd_ne (fun q => n (List.mem_singleton.mpr q))]; exact z) (Ex.mut o2.i gD) (fun _ _ _ y => y) ⟨ws ++ [v], upd_same, by rw [List.map_append]; exact h2.append (.cons hr .nil)⟩
    have es : (M ++ [lstR Dl (l.map f)]).set M.length (lstR Dl ((l ++ [a]).map f)) = M ++ [lstR Dl ((l ++ [a]).map f)] := by
      rw [List.set_append_right _ _ (Nat.le_refl _), Nat.sub_self]; rfl
    rw [es] at o3
    exact o3
theorem l_lcR' {ta : TA} (n : Nat) (h : ∀ σ G, En σ G Γ → EvA ta σ G [.int (n : Int)]) (hz : n ≤ 40000) (he : ∀ i R, i < n → EXD ((wipeC Γ vs).set j (some (nI i))) (M ++ [R]) te D f) (hj : j ∈ vs := by simp) : EXL Γ M (tLc (iRng1 ta) (gName j) tYes te vs) (fun l : List α => l.length = n ∧ ∀ a ∈ l, D a) (fun l => l.map f) := fun B G H σ o en Q q => h σ G en H o.i _ fun H1 e1 => by
  refine ⟨(n : Int), rfl, by omega, by omega, fun Dl hD => ?_⟩
  rw [Int.toNat_natCast]
  refine lc_range (lo := 0) (n := n) (fun i H' => Dc B G M Dl D f i H') (dc_start (o.ex e1) hD) (fun i H' hi p => ?_) (fun H' p => ?_)
  · have e0 : (0 : Int) + (i : Int) = (i : Int) := Int.zero_add _
    rw [e0]
    refine ⟨wipe_turn σ hj _, ?_⟩
    dsimp only [tYes]
    rw [if_pos rfl]
    exact dc_step (by omega) p (fun G' e => en_at (r := nI i) (en.mono e) rfl) (fun R => he i R hi)
  · obtain ⟨G', l, e, hl, hDl, o2⟩ := p
    exact q (.ref Dl) G' H' _ _ ⟨l, Dl, ⟨hl, hDl⟩, rfl, rfl⟩ o2 e rfl
theorem l_lcR (n : Nat) (h : EvX Γ ta (nI n)) (hz : n ≤ 40000) (he : ∀ i R, i < n → EXD ((wipeC Γ vs).set j (some (nI i))) (M ++ [R]) te D f) (hj : j ∈ vs := by simp) : EXL Γ M (tLc (iRng1 (tCons ta tNil)) (gName j) tYes te vs) (fun l : List α => l.length = n ∧ ∀ a ∈ l, D a) (fun l => l.map f) :=
  l_lcR' n (fun σ G en => ea_cons (EvD.ev (h σ G en)) ea_nil) hz he hj
end
end Mu

namespace Mu
open PySem PySem.Spec PyProof.Rows L2 Evl
/-! ### more of one's own lists: reverse, pop, items; lists of ints of any sign; chains -/
section
variable {α : Type} {D : α → Prop} {W : WX} {Γ : Ctx} {M : List Re} {te ta tb tc tl : TE} {rs : List Rp} {K : PySem.W.Frag} {b p : Addr} {i j k m n : Nat} {κ : Kn} {a c : Int}
theorem RA.rev {H : Hp} : ∀ {vs : List V} {rs : List Rp}, RA H vs rs → RA H vs.reverse rs.reverse
  | _, _, .nil => .nil
  | _, _, .cons h t => by
    rw [List.reverse_cons, List.reverse_cons]
    exact (RA.rev t).append (.cons h .nil)
theorem w_rev (k : Nat) (hk : M[k]? = some (lstR p rs)) (hi : Γ[i]? = some (some (rV (.ref p)))) (hn : κ.nx Γ (M.set k (lstR p rs.reverse))) : WP W Γ M (tDrop (tBM0 K "list" rReverse (tVar i))) κ := fun B G H σ D o en d => by
  obtain ⟨v, hv1, hv2⟩ := en.get hi
  obtain rfl : v = V.ref p := hv2
  have hm := List.mem_of_getElem? hk
  obtain ⟨ws, hp, ra⟩ := o.m _ hm
  have gp : G p = none := o.z p (mem_feet hm (List.mem_singleton.mpr rfl))
  refine ⟨.ref p, hv1, Or.inl ⟨rfl, ws, sq_of hp⟩, p, ws, rfl, rfl, hp, ?_⟩
  refine d.nx _ G _ _ _ (o.chg (R' := lstR p rs.reverse) hk rfl rfl (Ex.refl _) (fun a u z n => ?_) (Ex.mut o.i gp) (fun _ _ _ y => y) ⟨ws.reverse, upd_same, ra.rev⟩) en hn
  rw [upd_ne fun q => n (List.mem_singleton.mpr q)]
  exact z
theorem RA.erase {H : Hp} : ∀ {vs : List V} {rs : List Rp} (n : Nat), RA H vs rs → RA H (vs.eraseIdx n) (rs.eraseIdx n)
  | _, _, _, .nil => .nil
  | _, _, 0, .cons _ t => t
  | _, _, n + 1, .cons h t => .cons h (RA.erase n t)
/-- xs.pop(a drawn place) -/
theorem w_popD {g : α → Nat} (k : Nat) (hk : M[k]? = some (lstR p rs)) (hi : Γ[i]? = some (some (rV (.ref p)))) (h : EXD Γ M te D (fun x => nI (g x))) (hg : ∀ x, D x → g x < rs.length) (hz : rs.length < 50000) (hn : ∀ x, D x → κ.nx Γ (M.set k (lstR p (rs.eraseIdx (g x))))) : WP W Γ M (tDrop (tBM K "list" rPopAt (tVar i) (tCons te tNil))) κ := fun B G H σ D o en d => by
  obtain ⟨v, hv1, hv2⟩ := en.get hi
  obtain rfl : v = V.ref p := hv2
  obtain ⟨ws0, hp0, ra0⟩ := o.m _ (List.mem_of_getElem? hk)
  refine ⟨.ref p, hv1, Or.inl ⟨rfl, ws0, sq_of hp0⟩, h B G H σ o en _ fun v G2 H2 r M' z o2 e hv => ?_⟩
  obtain ⟨⟨x, hx, rfl⟩, rfl⟩ := z
  obtain rfl : v = V.int ((g x : Nat) : Int) := hv
  have hm := List.mem_of_getElem? hk
  obtain ⟨ws, hp, ra⟩ := o2.m _ hm
  have gp : G2 p = none := o2.z p (mem_feet hm (List.mem_singleton.mpr rfl))
  have hlt : g x < ws.length := by rw [ra.len]; exact hg x hx
  have hz2 : ws.length < 50000 := by rw [ra.len]; exact hz
  refine ⟨p, ws, ((g x : Nat) : Int), g x, ws[g x], rfl, rfl, hp, by omega, by omega, ?_, List.getElem?_eq_getElem hlt, ?_⟩
  · unfold seqIndex?
    have e1 : ¬ ((g x : Nat) : Int) < 0 := by omega
    simp only [e1, if_false]
    rw [if_pos (by simp; omega), Int.toNat_natCast]
  · refine d.nx _ G2 _ _ _ (o2.chg (R' := lstR p (rs.eraseIdx (g x))) hk rfl rfl (Ex.refl _) (fun a u z n => ?_) (Ex.mut o2.i gp) (fun _ _ _ y => y) ⟨ws.eraseIdx (g x), upd_same, ra.erase (g x)⟩) (en.mono e) (hn x hx)
    rw [upd_ne fun q => n (List.mem_singleton.mpr q)]
    exact z
/-- xs[a drawn place], xs our own -/
theorem d_ixOwn {g : α → Nat} {f : α → Rp} (k : Nat) (hk : M[k]? = some (lstR p rs)) (hi : Γ[i]? = some (some (rV (.ref p)))) (h : EXD Γ M tb D (fun x => nI (g x))) (hf : ∀ x, D x → rs[g x]? = some (f x)) : EXD Γ M (tOp (rIxL K) (tVar i) tb) D f := fun B G H σ o en Q q => by
  obtain ⟨v, hv1, hv2⟩ := en.get hi
  obtain rfl : v = V.ref p := hv2
  refine ⟨.ref p, hv1, h B G H σ o en _ fun v G2 H2 r M' z o2 e hv => ?_⟩
  obtain ⟨⟨x, hx, rfl⟩, rfl⟩ := z
  obtain rfl : v = V.int ((g x : Nat) : Int) := hv
  obtain ⟨ws, hp, ra⟩ := o2.m _ (List.mem_of_getElem? hk)
  obtain ⟨w, h3, h4⟩ := ra.get (hf x hx)
  exact ⟨p, ws, _, w, rfl, rfl, sq_of hp, atI_nat h3, q w G2 H2 _ _ ⟨⟨x, hx, rfl⟩, rfl⟩ o2 e h4⟩
/-! ints of any sign -/
theorem ints_flatI (l : List Int) : (l.map V.int).all flatV = true := by
  rw [List.all_map]
  exact List.all_eq_true.mpr fun _ _ => rfl
theorem inV_int (w : Int) (l : List Int) : inV (.int w) (l.map V.int) = decide (w ∈ l) := by
  unfold inV
  rw [List.any_map, Bool.eq_iff_iff, List.any_eq_true, decide_eq_true_iff]
  constructor
  · rintro ⟨x, hx, h⟩
    have : x = w := by
      have h2 : eqV (.int x) (.int w) = true := h
      simpa [eqV] using h2
    rw [← this]; exact hx
  · intro h
    exact ⟨w, h, by simp [eqV]⟩
theorem x_inLi {l : List Int} (neg : Bool) (ha : EvX Γ ta (rI a)) (hb : EvX Γ tb (rL K (l.map rI))) : EvX Γ (tOp (rIn K neg) ta tb) (rB (if neg then !decide (a ∈ l) else decide (a ∈ l))) := fun σ G en =>
  Ev.d (ev_op2 (ha σ G en) (hb σ G en) fun x y H hx hy Q q => by
    obtain rfl : x = V.int a := hx
    obtain ⟨p, vs, rfl, h1, h2⟩ := hy
    have e := ra_ints_eq h2
    subst e
    exact ⟨p, _, rfl, .inl (sq_of h1), rfl, ints_flatI l, by rw [inV_int]; exact q⟩)
/-! a op b op c -/
theorem t_chain {p p' : Int → Int → Bool} {a b c : Int} (ha : EvX Γ ta (rI a)) (hb : EvX Γ tb (rI b)) (hc : EvX Γ tc (rI c)) : EvTX Γ (tTest (tChain (rI0 fun i j => .bl (p i j)) (rI0 fun i j => .bl (p' i j)) ta tb tc)) (p a b && p' b c) := fun σ G en H e Q q =>
  ha σ G en H e _ fun x G2 H2 g2 hx => hb σ G2 (en.mono g2.g) H2 g2.i _ fun y G3 H3 g3 hy => by
    obtain rfl : x = V.int a := hx
    obtain rfl : y = V.int b := hy
    refine ⟨a, b, rfl, rfl, p a b, rfl, ?_⟩
    cases z : p a b with
    | false =>
      rw [if_neg (by decide)]
      refine ⟨false, rfl, ?_⟩
      have := q H3 (g2.h.trans g3.h)
      rwa [z] at this
    | true =>
      rw [if_pos rfl]
      refine hc σ G3 (en.mono (g2.g.trans g3.g)) H3 g3.i _ fun w G4 H4 g4 hw => ?_
      obtain rfl : w = V.int c := hw
      refine ⟨b, c, rfl, rfl, p' b c, rfl, ?_⟩
      have := q H4 ((g2.h.trans g3.h).trans g4.h)
      rwa [z, Bool.true_and] at this
end
/-! ### a pair of names as a target, within a comprehension's block -/
theorem pg_pair {X : Cx} {x1 x2 : Str} {p1 p2 pos : Pos} {kk i1 i2 : Nat} (K : PySem.W.Frag) (hc : X.calm = true) (hN : X.N.Nodup) (h1 : X.N[i1]? = some x1) (h2 : X.N[i2]? = some x2) (l1 : X.env.scope.names.lookup x1 = some .local) (l2 : X.env.scope.names.lookup x2 = some .local) (hK : X.K = K) : PG X (.Tuple [.Name x1 p1, .Name x2 p2] kk pos) (gP K i1 i2) := by
  subst hK
  exact pg_tup hc (pgs_cons (pg_name hN h1 (.inl l1) (.inr l1)) (pgs_cons (pg_name hN h2 (.inl l2) (.inr l2)) pgs_nil))
/-! ### a helper of the law that draws and gives a new list -/
section
variable {α : Type} {D : α → Prop} {W : WX} {Γ : Ctx} {M : List Re} {t : TS} {tt u : TT} {te : TE} {G H : Hp} {σ : L2.St} {Q : VK} {K : PySem.W.Frag} {b : Addr} {i k m : Nat} {E : XK}
theorem run_BN {P : List Rp → Prop} (w : WP W Γ [boxR K b] t { nx := fun _ _ => False, rt := fun r' M' => ∃ rs p, P rs ∧ r' = rV (.ref p) ∧ M' = [boxR K b, lstR p rs] }) (e : Ex G H) (gb : G b = none) (hb : Box K G H b) (en : En σ G Γ) (k : ∀ rs p vs G2 H2, P rs → GrB b G H G2 H2 → Box K G2 H2 b → H p = none → G2 p = none → H2 p = some (.lst vs) → RA G2 vs rs → Q (.ref p) H2) : t { nx := fun _ H' => Q .non H', rt := Q } σ H :=
  w _ G H σ _ (Ok.box e gb hb) en ⟨fun _ _ _ _ _ _ _ z => z.elim, fun v G' H' r' M' o hv z => by
    obtain ⟨rs, p, hP, rfl, rfl⟩ := z
    obtain rfl : v = V.ref p := hv
    have hm : lstR p rs ∈ [boxR K b, lstR p rs] := by simp
    obtain ⟨ws, h1, h2⟩ := o.m (lstR p rs) hm
    have hp : H p = none := by
      rcases o.f (lstR p rs) hm p (List.mem_singleton.mpr rfl) with q | q
      · exact q
      · exact nomatch q.1
    exact k rs p ws G' H' hP o.toB (o.m (boxR K b) List.mem_cons_self) hp (o.z p (mem_feet hm (List.mem_singleton.mpr rfl))) h1 h2, fun _ _ _ _ _ _ _ z => z.elim, fun _ _ _ _ _ _ _ z => z.elim, fun _ _ _ _ _ _ _ _ _ _ _ z => z.elim⟩
/-- a draw from as many as a reading tells that may look at our own lists -/
theorem d_takeE (hk : M[k]? = some (boxR K b)) (hv : Γ[i]? = some (some (rV (.ref b)))) (h : EX Γ M te (fun r M' => r = rV (.int (m : Int)) ∧ M' = M)) (h0 : 0 < m) (h1 : m < 2 ^ 30) : EXD Γ M (tCall (spT K) [] E (tCons (tVar i) (tCons te tNil))) (fun d : Nat => d < m) nI := fun B G H σ o en Q q => by
  obtain ⟨v, hv1, hv2⟩ := en.get hv
  obtain rfl : v = V.ref b := hv2
  refine ⟨.ref b, hv1, h B G H σ o en _ fun v G2 H2 r M' z o2 e2 hr => ?_⟩
  obtain ⟨rfl, rfl⟩ := z
  obtain rfl : v = V.int (m : Int) := hr
  have z2 : EXD Γ M' (tCall (spT K) [] E (tCons (tVar i) (tCons (tC (.int (m : Int))) tNil))) (fun d : Nat => d < m) nI := d_take hk hv (x_cn m) h0 h1
  obtain ⟨w, hw, z3⟩ := z2 B G2 H2 σ o2 (en.mono e2) Q fun v G' H' r M' k1 k2 k3 k4 => q v G' H' r M' k1 k2 (e2.trans k3) k4
  rw [hv1] at hw
  cases hw
  exact z3
theorem d_andO {c : Bool} {f : α → Bool} (h1 : EXT Γ M tt (fun c' M' => c' = c ∧ M' = M)) (h2 : c = true → EXTD Γ M u D f) : EXT Γ M (tAnd tt u) (fun d M' => ((c = false ∧ d = false) ∨ (c = true ∧ ∃ a, D a ∧ d = f a)) ∧ M' = M) := fun B G H σ o en Q q => h1 B G H σ o en _ fun c' G1 H1 M1 z o1 e1 => by
  obtain ⟨rfl, rfl⟩ := z
  cases c' with
  | false => exact q false G1 H1 _ ⟨.inl ⟨rfl, rfl⟩, rfl⟩ o1 e1
  | true => exact h2 rfl B G1 H1 σ o1 (en.mono e1) _ fun d G2 H2 M2 z o2 e2 => q d G2 H2 M2 ⟨.inr ⟨rfl, z.1⟩, z.2⟩ o2 (e1.trans e2)
end
end Mu

namespace Mu
open PySem PySem.Spec PyProof.Rows L2 Evl
/-! ### readings by what follows: κ of the answer and the things, ε of an error -/
abbrev KV := Rp → List Re → Prop
abbrev KX := Value → List (Str × V) → List Re → Prop
def Go (B : Ba) (G : Hp) (κ : KV) (Q : VK) : Prop := ∀ v G' H' r M', κ r M' → Ok B G' H' M' → Ex G G' → r.p v G' → Q v H'
def GoX (B : Ba) (G : Hp) (ε : KX) (W : WX) (σ : L2.St) : Prop := ∀ cls fs d G' H' M', ε cls fs M' → Ok B G' H' M' → Ex G G' → XdOk G' fs d → W cls d σ H'
def EW (W : WX) (Γ : Ctx) (M : List Re) (te : TE) (κ : KV) (ε : KX) : Prop := ∀ B G H σ, Ok B G H M → En σ G Γ → ∀ Q : VK, Go B G κ Q → GoX B G ε W σ → te σ H Q
def EA (W : WX) (Γ : Ctx) (M : List Re) (ta : TA) (κ : List Rp → List Re → Prop) (ε : KX) : Prop := ∀ B G H σ, Ok B G H M → En σ G Γ → ∀ Q : List V → Hp → Prop, (∀ vs G' H' rs M', κ rs M' → Ok B G' H' M' → Ex G G' → RA G' vs rs → Q vs H') → GoX B G ε W σ → ta σ H Q
def ET (W : WX) (Γ : Ctx) (M : List Re) (t : TT) (κ : Bool → List Re → Prop) (ε : KX) : Prop := ∀ B G H σ, Ok B G H M → En σ G Γ → ∀ Q : Bool → Hp → Prop, (∀ c G' H' M', κ c M' → Ok B G' H' M' → Ex G G' → Q c H') → GoX B G ε W σ → t σ H Q
/-! the leaves: an operation on values that stand for .. -/
def OM (rr : R2) (r1 r2 : Rp) (M : List Re) (κ : KV) : Prop := ∀ B G H x y, Ok B G H M → r1.p x G → r2.p y G → ∀ Q : VK, Go B G κ Q → rr x y H Q
def UM (rr : V → Hp → VK → Prop) (r1 : Rp) (M : List Re) (κ : KV) : Prop := ∀ B G H x, Ok B G H M → r1.p x G → ∀ Q : VK, Go B G κ Q → rr x H Q
def AM (rr : List V → Hp → VK → Prop) (rs : List Rp) (M : List Re) (κ : KV) : Prop := ∀ B G H vs, Ok B G H M → RA G vs rs → ∀ Q : VK, Go B G κ Q → rr vs H Q
def CM (sp : Sp) (rs : List Rp) (M : List Re) (κ : KV) : Prop := ∀ E, AM (fun vs H Q => sp vs H Q E) rs M κ
/-- .. that may raise -/
def XM (sp : Sp) (rs : List Rp) (M : List Re) (κ : KV) (ε : KX) : Prop := ∀ B G H vs W σ, Ok B G H M → RA G vs rs → ∀ Q : VK, Go B G κ Q → GoX B G ε W σ → sp vs H Q (fun cls d H' => W cls d σ H')
section
variable {W : WX} {Γ : Ctx} {M : List Re} {te ta tb tc tl : TE} {t u : TT} {r r1 r2 r3 : Rp} {rs ss : List Rp} {K : PySem.W.Frag} {C : Addr} {i j : Nat} {v w x y : V} {m n : Nat} {E : XK} {sp : Sp} {κ : KV} {ε : KX} {B : Ba} {G G1 H : Hp} {Q : VK} {σ : L2.St} {rr : R2}
theorem Go.up (q : Go B G κ Q) (e : Ex G G1) : Go B G1 κ Q := fun v G' H' r M' k o e' hv => q v G' H' r M' k o (e.trans e') hv
theorem GoX.up (q : GoX B G ε W σ) (e : Ex G G1) : GoX B G1 ε W σ := fun c f d G' H' M' k o e' hv => q c f d G' H' M' k o (e.trans e') hv
theorem e_v (h : Γ[i]? = some (some r)) (k : κ r M) : EW W Γ M (tVar i) κ ε := fun B G H σ o en Q q _ => by
  obtain ⟨v, h1, h2⟩ := en.get h
  exact ⟨v, h1, q v G H r M k o (Ex.refl _) h2⟩
theorem e_c (k : κ (rV v) M) : EW W Γ M (tC v) κ ε := fun B G H σ o en Q q _ => q v G H (rV v) M k o (Ex.refl _) rfl
theorem e_x (h : EvX Γ te r) (k : κ r M) : EW W Γ M te κ ε := fun B G H σ o en Q q _ => h σ G en H o.i Q fun v G2 H2 g hv => q v G2 H2 r M k (o.gr g) g.g hv
theorem e_xn (K : PySem.W.Frag) (h : EvNX Γ te rs) (k : κ (rL K rs) M) : EW W Γ M te κ ε := e_x (EvNX.d (K := K) h) k
/-- a new list of our own -/
theorem e_n (h : EvNX Γ te rs) (k : ∀ p, κ (rV (.ref p)) (M ++ [lstR p rs])) : EW W Γ M te κ ε := fun B G H σ o en Q q _ => h σ G en H o.i Q fun p vs G2 H2 g hp gp h2 ra =>
  q _ G2 H2 _ _ (k p) (o.add (R := lstR p rs) g (show [p].Nodup by simp) (fun a ha => by rw [List.mem_singleton.mp ha]; exact ⟨hp, gp⟩) ⟨vs, h2, ra⟩) g.g rfl
theorem EvX.by (h : ∀ W ε, EW W Γ [] te (fun r' M' => r' = r ∧ M' = []) ε) : EvX Γ te r := fun σ G en H e Q q => h (fun _ _ _ _ => True) (fun _ _ _ => False) ⟨G, H, [], G⟩ G H σ (Ok.nil e) en Q (fun v G' H' r' M' z o _ hv => by
    obtain ⟨rfl, rfl⟩ := z
    exact q v G' H' o.to hv) (fun _ _ _ _ _ _ z => z.elim)
theorem e_op (h : EW W Γ M ta (fun r1 M1 => EW W Γ M1 tb (fun r2 M2 => OM rr r1 r2 M2 κ) ε) ε) : EW W Γ M (tOp rr ta tb) κ ε := fun B G H σ o en Q q x =>
  h B G H σ o en _ (fun v1 G1 H1 r1 M1 h1 o1 e1 hv1 => h1 B G1 H1 σ o1 (en.mono e1) _ (fun v2 G2 H2 r2 M2 h2 o2 e2 hv2 => h2 B G2 H2 v1 v2 o2 (r1.mono e2 hv1) hv2 Q (q.up (e1.trans e2))) (x.up e1)) x
theorem e_un {rr : V → Hp → VK → Prop} (h : EW W Γ M ta (fun r1 M1 => UM rr r1 M1 κ) ε) : EW W Γ M (tUn rr ta) κ ε := fun B G H σ o en Q q x =>
  h B G H σ o en _ (fun v1 G1 H1 r1 M1 h1 o1 e1 hv1 => h1 B G1 H1 v1 o1 hv1 Q (q.up e1)) x
theorem a_nil {κ : List Rp → List Re → Prop} (k : κ [] M) : EA W Γ M tNil κ ε := fun B G H σ o en Q q _ => q [] G H [] M k o (Ex.refl _) .nil
theorem a_cons {κ : List Rp → List Re → Prop} {tr : TA} (h : EW W Γ M ta (fun r1 M1 => EA W Γ M1 tr (fun rs M2 => κ (r1 :: rs) M2) ε) ε) : EA W Γ M (tCons ta tr) κ ε := fun B G H σ o en Q q x =>
  h B G H σ o en _ (fun v1 G1 H1 r1 M1 h1 o1 e1 hv1 => h1 B G1 H1 σ o1 (en.mono e1) _ (fun vs G2 H2 rs M2 h2 o2 e2 ra => q (v1 :: vs) G2 H2 (r1 :: rs) M2 h2 o2 (e1.trans e2) (.cons (r1.mono e2 hv1) ra)) (x.up e1)) x
theorem e_call {ta : TA} (h : EA W Γ M ta (fun rs M1 => CM sp rs M1 κ) ε) : EW W Γ M (tCall sp [] E ta) κ ε := fun B G H σ o en Q q x =>
  h B G H σ o en _ (fun vs G1 H1 rs M1 h1 o1 e1 ra => by
    rw [List.append_nil]
    exact h1 E B G1 H1 vs o1 ra Q (q.up e1)) x
theorem e_callS {ta : TA} (h : EA W Γ M ta (fun rs M1 => XM sp rs M1 κ ε) ε) : EW W Γ M (tCallS sp (WE W) ta) κ ε := fun B G H σ o en Q q x =>
  h B G H σ o en _ (fun vs G1 H1 rs M1 h1 o1 e1 ra => h1 B G1 H1 vs W σ o1 ra Q (q.up e1) (x.up e1)) x
theorem e_cb {ta : TA} {rr : List V → Hp → VK → Prop} (h : EA W Γ M ta (fun rs M1 => AM rr rs M1 κ) ε) : EW W Γ M (tCB rr ta) κ ε := fun B G H σ o en Q q x =>
  h B G H σ o en _ (fun vs G1 H1 rs M1 h1 o1 e1 ra => h1 B G1 H1 vs o1 ra Q (q.up e1)) x
theorem e_tup (K : PySem.W.Frag) {ta : TA} (h : EA W Γ M ta (fun rs M1 => rs.length ≤ 100000 ∧ κ (rT K rs) M1) ε) : EW W Γ M (tTup ta) κ ε := fun B G H σ o en Q q x =>
  h B G H σ o en _ (fun vs G1 H1 rs M1 h1 o1 e1 ra => ⟨sz_of (by rw [ra.len]; exact h1.1), fun p hp => by
    have g3 := Gr.new (o := .tup vs) o1.i hp
    exact q (.ref p) _ _ (rT K rs) M1 h1.2 (o1.gr g3) (e1.trans g3.g) ⟨p, vs, rfl, st_of upd_same, ra.mono g3.g⟩⟩) x
theorem e_lst (K : PySem.W.Frag) {ta : TA} (h : EA W Γ M ta (fun rs M1 => rs.length ≤ 100000 ∧ κ (rL K rs) M1) ε) : EW W Γ M (tLst ta) κ ε := fun B G H σ o en Q q x =>
  h B G H σ o en _ (fun vs G1 H1 rs M1 h1 o1 e1 ra => ⟨sz_of (by rw [ra.len]; exact h1.1), fun p hp => by
    have g3 := Gr.new (o := .lst vs) o1.i hp
    exact q (.ref p) _ _ (rL K rs) M1 h1.2 (o1.gr g3) (e1.trans g3.g) ⟨p, vs, rfl, upd_same, ra.mono g3.g⟩⟩) x
theorem e_lstN {ta : TA} (h : EA W Γ M ta (fun rs M1 => rs.length ≤ 100000 ∧ ∀ p, κ (rV (.ref p)) (M1 ++ [lstR p rs])) ε) : EW W Γ M (tLst ta) κ ε := fun B G H σ o en Q q x =>
  h B G H σ o en _ (fun vs G1 H1 rs M1 h1 o1 e1 ra => ⟨sz_of (by rw [ra.len]; exact h1.1), fun p hp => by
    have gp := fresh_back o1.i hp
    have g3 := Gr.out (o := .lst vs) o1.i hp
    exact q (.ref p) _ _ (rV (.ref p)) _ (h1.2 p) (o1.add (R := lstR p rs) g3 (show [p].Nodup by simp) (fun a ha => by rw [List.mem_singleton.mp ha]; exact ⟨hp, gp⟩) ⟨vs, upd_same, ra⟩) e1 rfl⟩) x
theorem e_fld (f : Str) (h : EW W Γ M ta (fun r1 M1 => UM (fun x H1 Q => ∃ a C dx fs v, x = .ref a ∧ H1 a = some (.ins C dx fs) ∧ Cls K C ∧ NoAttr K C f ∧ fs.lookup f = some v ∧ Q v H1) r1 M1 κ) ε) : EW W Γ M (tFld K ta f) κ ε := fun B G H σ o en Q q x =>
  h B G H σ o en _ (fun v1 G1 H1 r1 M1 h1 o1 e1 hv1 => h1 B G1 H1 v1 o1 hv1 Q (q.up e1)) x
/-- C(..), the instance then of another reading -/
theorem e_make {ta : TA} (h : EA W Γ M ta (fun rs M1 => AM (fun vs H1 Q => ∀ x dx, H1 x = none → H1 dx = none → dx ≠ x → sp (.ref x :: (vs ++ [])) (upd (upd H1 dx (.own x)) x (.ins C dx [])) (fun v H2 => v = .non ∧ Q (.ref x) H2) E) rs M1 κ) ε) : EW W Γ M (tMake C sp [] E ta) κ ε := fun B G H σ o en Q q x =>
  h B G H σ o en _ (fun vs G1 H1 rs M1 h1 o1 e1 ra => h1 B G1 H1 vs o1 ra Q (q.up e1)) x
/-- an instance that stays -/
def InsR (C : Addr) (f : Str) (r : Rp) : Prop := ∀ v G, r.p v G → ∃ a dx fs, v = .ref a ∧ G a = some (.ins C dx fs) ∧ fs.lookup f = none
theorem e_meth {ta : TA} {f : Str} (h : EW W Γ M te (fun r0 M0 => InsR C f r0 ∧ EA W Γ M0 ta (fun rs M1 => CM sp (r0 :: rs) M1 κ) ε) ε) : EW W Γ M (tMeth C f sp [] E te ta) κ ε := fun B G H σ o en Q q x =>
  h B G H σ o en _ (fun v0 G0 H0 r0 M0 h0 o0 e0 hv0 => by
    obtain ⟨hi, h1⟩ := h0
    obtain ⟨a, dx, fs, rfl, h2, h3⟩ := hi _ _ hv0
    refine ⟨a, dx, fs, rfl, o0.i _ _ h2, h3, h1 B G0 H0 σ o0 (en.mono e0) _ (fun vs G1 H1 rs M1 k1 o1 e1 ra => ?_) (x.up e0)⟩
    rw [List.append_nil]
    exact k1 E B G1 H1 _ o1 (.cons (r0.mono e1 hv0) ra) Q (q.up (e0.trans e1))) x
theorem ins_tab {m : List Nat} {f : Str} (hf : (f == "size" || (f == "masks" || f == "cells")) = false) : InsR C f (rTab K C m) := fun v G hv => by
  obtain ⟨a, dx, t, c, rfl, h2, _⟩ := hv
  refine ⟨a, dx, _, rfl, h2, ?_⟩
  have hf2 := hf
  simp only [Bool.or_eq_false_iff] at hf2
  obtain ⟨h1, h3, h4⟩ := hf2
  unfold tabF
  simp [List.lookup, h1, h3, h4]
/-- tests -/
theorem w_t {κ : Bool → List Re → Prop} (h : EW W Γ M te (fun r M' => ∃ c, r = rB c ∧ κ c M') ε) : ET W Γ M (tTest te) κ ε := fun B G H σ o en Q q x =>
  h B G H σ o en _ (fun v G' H' r M' z o' e' hv => by
    obtain ⟨c, rfl, k⟩ := z
    exact ⟨c, hv, q c G' H' M' k o' e'⟩) x
theorem w_tB {κ : Bool → List Re → Prop} (h : EW W Γ M te (fun r M' => ∃ c, r = rB c ∧ κ c M') ε) : ET W Γ M (tB te) κ ε := fun B G H σ o en Q q x =>
  h B G H σ o en _ (fun v G' H' r M' z o' e' hv => by
    obtain ⟨c, rfl, k⟩ := z
    exact ⟨c, hv, q c G' H' M' k o' e'⟩) x
theorem w_tx {κ : Bool → List Re → Prop} {c : Bool} (h : EvTX Γ t c) (k : κ c M) : ET W Γ M t κ ε := fun B G H σ o en Q q x => h σ G en H o.i Q fun H2 e => q c G H2 M k (o.ex e) (Ex.refl _)
theorem w_tAnd {κ : Bool → List Re → Prop} (h : ET W Γ M t (fun c M' => (c = true → ET W Γ M' u κ ε) ∧ (c = false → κ false M')) ε) : ET W Γ M (tAnd t u) κ ε := fun B G H σ o en Q q x =>
  h B G H σ o en _ (fun c G' H' M' z o' e' => by
    cases c with
    | true =>
      show u σ H' Q
      exact z.1 rfl B G' H' σ o' (en.mono e') Q (fun c2 G2 H2 M2 k o2 e2 => q c2 G2 H2 M2 k o2 (e'.trans e2)) (x.up e')
    | false =>
      show Q false H'
      exact q false G' H' M' (z.2 rfl) o' e') x
theorem w_tOr {κ : Bool → List Re → Prop} (h : ET W Γ M t (fun c M' => (c = false → ET W Γ M' u κ ε) ∧ (c = true → κ true M')) ε) : ET W Γ M (tOr t u) κ ε := fun B G H σ o en Q q x =>
  h B G H σ o en _ (fun c G' H' M' z o' e' => by
    cases c with
    | false =>
      show u σ H' Q
      exact z.1 rfl B G' H' σ o' (en.mono e') Q (fun c2 G2 H2 M2 k o2 e2 => q c2 G2 H2 M2 k o2 (e'.trans e2)) (x.up e')
    | true =>
      show Q true H'
      exact q true G' H' M' (z.2 rfl) o' e') x
theorem w_tNot {κ : Bool → List Re → Prop} (h : ET W Γ M t (fun c M' => κ (!c) M') ε) : ET W Γ M (tNot t) κ ε := fun B G H σ o en Q q x =>
  h B G H σ o en _ (fun c G' H' M' z o' e' => q (!c) G' H' M' z o' e') x
end
/-! statements -/
section
variable {W : WX} {Γ : Ctx} {M : List Re} {te ta tb tc tl : TE} {t u : TT} {r r1 r2 r3 : Rp} {rs ss : List Rp} {K : PySem.W.Frag} {C : Addr} {i j : Nat} {κ : Kn} {tu tw : TS}
theorem ws_set (h : EW W Γ M te (fun r M' => κ.nx (Γ.set i (some r)) M') (κ.ex Γ)) : WP W Γ M (tAsg te (gName i)) κ := fun B G H σ D o en d =>
  h B G H σ o en _ (fun v G' H' r M' k o' e' hv => d.nx _ G' H' _ M' o' ((en.mono e').set hv i) k) (fun cls fs dd G' H' M' k o' e' xd => d.ex σ G' H' Γ M' cls dd fs o' (en.mono e') xd k)
theorem ws_ret (h : EW W Γ M te κ.rt (κ.ex Γ)) : WP W Γ M (tRet te) κ := fun B G H σ D o en d =>
  h B G H σ o en _ (fun v G' H' r M' k o' e' hv => d.rt v G' H' r M' o' hv k) (fun cls fs dd G' H' M' k o' e' xd => d.ex σ G' H' Γ M' cls dd fs o' (en.mono e') xd k)
theorem ws_do (h : EW W Γ M te (fun _ M' => κ.nx Γ M') (κ.ex Γ)) : WP W Γ M (tDrop te) κ := fun B G H σ D o en d =>
  h B G H σ o en _ (fun v G' H' r M' k o' e' hv => d.nx σ G' H' _ M' o' (en.mono e') k) (fun cls fs dd G' H' M' k o' e' xd => d.ex σ G' H' Γ M' cls dd fs o' (en.mono e') xd k)
theorem ws_if (h : ET W Γ M t (fun c M' => (c = true → WP W Γ M' tu κ) ∧ (c = false → WP W Γ M' tw κ)) (κ.ex Γ)) : WP W Γ M (tIfS t tu tw) κ := fun B G H σ D o en d =>
  h B G H σ o en _ (fun c G' H' M' k o' e' => by
    cases c with
    | true =>
      show tu D σ H'
      exact k.1 rfl B G' H' σ D o' (en.mono e') d
    | false =>
      show tw D σ H'
      exact k.2 rfl B G' H' σ D o' (en.mono e') d) (fun cls fs dd G' H' M' k o' e' xd => d.ex σ G' H' Γ M' cls dd fs o' (en.mono e') xd k)
end
/-! leaves -/
section
variable {W : WX} {Γ : Ctx} {M : List Re} {te ta tb tc tl : TE} {r r1 r2 r3 : Rp} {rs ss : List Rp} {K : PySem.W.Frag} {C b p : Addr} {i j k : Nat} {v w x y : V} {m n : Nat} {a c : Int} {sp : Sp} {κ : KV} {ε : KX} {rr : R2}
theorem en2 {G : Hp} (h1 : r1.p x G) (h2 : r2.p y G) : En [some x, some y] G [some r1, some r2] := .cons (fun q hq => ⟨x, rfl, by cases hq; exact h1⟩) (.cons (fun q hq => ⟨y, rfl, by cases hq; exact h2⟩) .nil)
theorem en1 {G : Hp} (h1 : r1.p x G) : En [some x] G [some r1] := .cons (fun q hq => ⟨x, rfl, by cases hq; exact h1⟩) .nil
theorem om (h : EvX [some r1, some r2] (tOp rr (tVar 0) (tVar 1)) r) (k : κ r M) : OM rr r1 r2 M κ := fun B G H x y o hx hy Q q => by
  obtain ⟨v1, e1, v2, e2, z⟩ := h _ G (en2 hx hy) H o.i Q fun v G2 H2 g hv => q v G2 H2 r M k (o.gr g) g.g hv
  cases e1; cases e2
  exact z
theorem omn (h : EvNX [some r1, some r2] (tOp rr (tVar 0) (tVar 1)) rs) (k : κ (rL K rs) M) : OM rr r1 r2 M κ := om (EvNX.d (K := K) h) k
theorem um {rr : V → Hp → VK → Prop} (h : EvX [some r1] (tUn rr (tVar 0)) r) (k : κ r M) : UM rr r1 M κ := fun B G H x o hx Q q => by
  obtain ⟨v1, e1, z⟩ := h _ G (en1 hx) H o.i Q fun v G2 H2 g hv => q v G2 H2 r M k (o.gr g) g.g hv
  cases e1
  exact z
theorem am1 {rr : List V → Hp → VK → Prop} (h : EvX [some r1] (tCB rr (tCons (tVar 0) tNil)) r) (k : κ r M) : AM rr [r1] M κ := fun B G H vs o ra Q q => by
  obtain ⟨x, rfl, hx⟩ := ra1 ra
  obtain ⟨v1, e1, z⟩ := h _ G (en1 hx) H o.i Q fun v G2 H2 g hv => q v G2 H2 r M k (o.gr g) g.g hv
  cases e1
  exact z
theorem am1n {rr : List V → Hp → VK → Prop} (h : EvNX [some r1] (tCB rr (tCons (tVar 0) tNil)) rs) (k : κ (rL K rs) M) : AM rr [r1] M κ := am1 (EvNX.d (K := K) h) k
theorem am2c {rr : List V → Hp → VK → Prop} {c : V} (h : EvX [some r1] (tCB rr (tCons (tVar 0) (tCons (tC c) tNil))) r) (k : κ r M) : AM rr [r1, rV c] M κ := fun B G H vs o ra Q q => by
  obtain ⟨x, y, rfl, hx, hy⟩ := ra2 ra
  obtain rfl : y = c := hy
  obtain ⟨v1, e1, z⟩ := h _ G (en1 hx) H o.i Q fun v G2 H2 g hv => q v G2 H2 r M k (o.gr g) g.g hv
  cases e1
  exact z
theorem cm (h : ∀ vs G, RA G vs rs → SpD sp vs G r) (k : κ r M) : CM sp rs M κ := fun E B G H vs o ra Q q => h vs G ra H o.i Q (fun v G2 H2 g hv => q v G2 H2 r M k (o.gr g) g.g hv) E
theorem cmn (h : ∀ vs G, RA G vs rs → SpN sp vs G ss) (k : κ (rL K ss) M) : CM sp rs M κ := cm (fun vs G ra => by
  intro H e Q q E
  exact h vs G ra H e Q (fun p ws G2 H2 g hp gp h2 ra => by
    have e2 : Ex (upd G2 p (.lst ws)) H2 := fun a u z => by
      by_cases c : a = p
      · subst c
        rw [upd_same] at z
        rw [h2]; exact z
      · rw [upd_ne c] at z
        exact g.i a u z
    refine q (.ref p) (upd G2 p (.lst ws)) H2 ⟨g.g.trans (Ex.new gp), g.h, e2, fun a u z y => ?_⟩ ⟨p, ws, rfl, upd_same, ra.mono (Ex.new gp)⟩
    rw [upd_ne (ne_of_none z hp)]
    exact g.n a u z y) E) k
/-- the answer stays our own -/
theorem cmo (h : ∀ vs G, RA G vs rs → SpN sp vs G ss) (k : ∀ p, κ (rV (.ref p)) (M ++ [lstR p ss])) : CM sp rs M κ := fun E B G H vs o ra Q q => h vs G ra H o.i Q (fun p ws G2 H2 g hp gp h2 ra => q _ G2 H2 _ _ (k p) (o.add (R := lstR p ss) g (show [p].Nodup by simp) (fun a ha => by rw [List.mem_singleton.mp ha]; exact ⟨hp, gp⟩) ⟨ws, h2, ra⟩) g.g rfl) E
theorem xm {R : List V → Hp → Out → Prop} (h : ∀ vs G, RA G vs rs → R vs G (.inl r)) (k : κ r M) : XM (spO R) rs M κ ε := fun B G H vs W σ o ra Q q x => by
  refine ⟨G, .inl r, o.i, h vs G ra, fun r' e' v G2 H2 g hv => ?_, fun _ _ z => nomatch z⟩
  cases e'
  exact q v G2 H2 r M k (o.gr g) g.g hv
theorem xmx {R : List V → Hp → Out → Prop} {cls : Value} {fs : List (Str × V)} (h : ∀ vs G, RA G vs rs → R vs G (.inr (cls, fs))) (k : ε cls fs M) : XM (spO R) rs M κ ε := fun B G H vs W σ o ra Q q x => by
  refine ⟨G, .inr (cls, fs), o.i, h vs G ra, fun _ z => (nomatch z), fun c f e' d G2 H2 g xd => ?_⟩
  cases e'
  exact x cls fs d G2 H2 M k (o.gr g) g.g xd
theorem cmO {R : List V → Hp → Out → Prop} (h : ∀ vs G, RA G vs rs → R vs G (.inl r)) (k : κ r M) : CM (spO R) rs M κ := cm (fun vs G ra => SpD.ofO (h vs G ra)) k
/-! draws -/
theorem c_take (k : Nat) (hk : M[k]? = some (boxR K b)) (h0 : 0 < m) (h1 : m < 2 ^ 30) (kk : ∀ d, d < m → κ (nI d) M) : CM (spT K) [rV (.ref b), nI m] M κ := fun E B G H vs o ra Q q => by
  obtain ⟨x, y, rfl, hx, hy⟩ := ra2 ra
  obtain rfl : x = V.ref b := hx
  obtain rfl : y = V.int (m : Int) := hy
  have z : EXD [some (rV (.ref b))] M (tCall (spT K) [] E (tCons (tVar 0) (tCons (tC (.int (m : Int))) tNil))) (fun d : Nat => d < m) nI := d_take hk rfl (x_cn m) h0 h1
  obtain ⟨w, hw, z3⟩ := z B G H [some (.ref b)] o (en1 rfl) Q fun v G' H' r M' k1 k2 k3 k4 => by
    obtain ⟨⟨d, hd, rfl⟩, rfl⟩ := k1
    exact q v G' H' _ _ (kk d hd) k2 k3 k4
  cases hw
  exact z3
theorem c_B {R : List V → Hp → (Rp → Prop) → Prop} {PP : Rp → Prop} (k : Nat) (hk : M[k]? = some (boxR K b)) (hs : ∀ ws G, RA G ws rs → R ws G PP) (kk : ∀ r, PP r → κ r M) : CM (spB K R) (rV (.ref b) :: rs) M κ := fun E B G H vs o ra Q q => by
  cases ra with
  | cons hx ra =>
    obtain rfl := hx
    have hm := List.mem_of_getElem? hk
    exact ⟨G, b, _, PP, rfl, o.i, o.z b (mem_feet hm (List.mem_singleton.mpr rfl)), o.m _ hm, hs _ G ra, fun r v G2 H2 p g hb hv => q v G2 H2 r M (kk r p) (o.grB hk g hb) g.g hv⟩
/-- .. a new list of our own -/
theorem c_BN {R : List V → Hp → (List Rp → Prop) → Prop} {PP : List Rp → Prop} (k : Nat) (hk : M[k]? = some (boxR K b)) (hs : ∀ ws G, RA G ws rs → R ws G PP) (kk : ∀ ss, PP ss → ∀ p, κ (rV (.ref p)) (M ++ [lstR p ss])) : CM (spBN K R) (rV (.ref b) :: rs) M κ := fun E B G H vs o ra Q q => by
  cases ra with
  | cons hx ra =>
    obtain rfl := hx
    have hm := List.mem_of_getElem? hk
    refine ⟨G, b, _, PP, rfl, o.i, o.z b (mem_feet hm (List.mem_singleton.mpr rfl)), o.m _ hm, hs _ G ra, fun ss p vs G2 H2 hP g hb2 hp gp h2 ra2 => q _ G2 H2 _ _ (kk ss hP p) (o.add2 (o.grB hk g hb2) (R := lstR p ss) (by show [_].Nodup; simp) (fun x hx => by rw [List.mem_singleton.mp hx]; exact ⟨hp, gp⟩) ⟨vs, h2, ra2⟩) g.g rfl⟩
theorem Go.frz {B : Ba} {G : Hp} {Q : VK} (q : Go B G κ Q) : Go B G (fun r M' => ∃ p ss M, r = rV (.ref p) ∧ M' = M ++ [lstR p ss] ∧ κ (rL K ss) M) Q := fun v G' H' r M' z o e hv => by
  obtain ⟨p, ss, M, rfl, rfl, k⟩ := z
  obtain rfl : v = V.ref p := hv
  have hk : (M ++ [lstR p ss])[M.length]? = some (lstR p ss) := by simp
  obtain ⟨G2, e2, o2, h2⟩ := o.frz (K := K) hk
  have es : (M ++ [lstR p ss]).eraseIdx M.length = M := by simp [List.eraseIdx_append_of_length_le]
  rw [es] at o2
  exact q _ G2 H' _ M k o2 (e.trans e2) h2
/-- .. a new list that stays -/
theorem c_BNf (K' : PySem.W.Frag) {R : List V → Hp → (List Rp → Prop) → Prop} {PP : List Rp → Prop} (k : Nat) (hk : M[k]? = some (boxR K b)) (hs : ∀ ws G, RA G ws rs → R ws G PP) (kk : ∀ ss, PP ss → κ (rL K' ss) M) : CM (spBN K R) (rV (.ref b) :: rs) M κ := fun E B G H vs o ra Q q =>
  c_BN (κ := fun r M' => ∃ p ss M, r = rV (.ref p) ∧ M' = M ++ [lstR p ss] ∧ κ (rL K' ss) M) k hk hs (fun ss h p => ⟨p, ss, M, rfl, rfl, kk ss h⟩) E B G H vs o ra Q q.frz
/-! our own lists are read -/
theorem Ok.rdv {B : Ba} {G H : Hp} (o : Ok B G H M) (hk : M[k]? = some (lstR p rs)) : ∃ G2, Ex G G2 ∧ Ex G2 H ∧ (rL K rs).p (.ref p) G2 := by
  have hm := List.mem_of_getElem? hk
  obtain ⟨ws, h1, h2⟩ := o.m _ hm
  have gp : G p = none := o.z p (mem_feet hm (List.mem_singleton.mpr rfl))
  have e : Ex G (upd G p (.lst ws)) := Ex.new gp
  exact ⟨upd G p (.lst ws), e, ex_add o.i h1, p, ws, rfl, upd_same, h2.mono e⟩
theorem om_ownL (k : Nat) (hk : M[k]? = some (lstR p rs)) (h : EvX [some (rL K rs), some r2] (tOp rr (tVar 0) (tVar 1)) (rV v)) (kk : κ (rV v) M) : OM rr (rV (.ref p)) r2 M κ := fun B G H x y o hx hy Q q => by
  obtain rfl : x = V.ref p := hx
  obtain ⟨G2, e, e2, hl⟩ := o.rdv (K := K) hk
  obtain ⟨v1, e1, v2, e3, z⟩ := h _ G2 (en2 hl (r2.mono e hy)) H e2 Q fun w G3 H3 g hw => q w G H3 (rV v) M kk (o.ex g.h) (Ex.refl _) hw
  cases e1; cases e3
  exact z
theorem om_ownR (k : Nat) (hk : M[k]? = some (lstR p rs)) (h : EvX [some r1, some (rL K rs)] (tOp rr (tVar 0) (tVar 1)) (rV v)) (kk : κ (rV v) M) : OM rr r1 (rV (.ref p)) M κ := fun B G H x y o hx hy Q q => by
  obtain rfl : y = V.ref p := hy
  obtain ⟨G2, e, e2, hl⟩ := o.rdv (K := K) hk
  obtain ⟨v1, e1, v2, e3, z⟩ := h _ G2 (en2 (r1.mono e hx) hl) H e2 Q fun w G3 H3 g hw => q w G H3 (rV v) M kk (o.ex g.h) (Ex.refl _) hw
  cases e1; cases e3
  exact z
theorem om_ixOwn (k : Nat) (hk : M[k]? = some (lstR p rs)) (hi : rs[n]? = some r) (kk : κ r M) : OM (rIxL K) (rV (.ref p)) (nI n) M κ := fun B G H x y o hx hy Q q => by
  obtain rfl : x = V.ref p := hx
  obtain rfl : y = V.int (n : Int) := hy
  obtain ⟨ws, hp, ra⟩ := o.m _ (List.mem_of_getElem? hk)
  obtain ⟨w, h3, h4⟩ := ra.get hi
  exact ⟨p, ws, _, w, rfl, rfl, sq_of hp, atI_nat h3, q w G H r M kk o (Ex.refl _) h4⟩
theorem am_own {rr : List V → Hp → VK → Prop} (k : Nat) (hk : M[k]? = some (lstR p rs)) (h : EvX [some (rL K rs)] (tCB rr (tCons (tVar 0) tNil)) (rV v)) (kk : κ (rV v) M) : AM rr [rV (.ref p)] M κ := fun B G H vs o ra Q q => by
  obtain ⟨x, rfl, hx⟩ := ra1 ra
  obtain rfl : x = V.ref p := hx
  obtain ⟨G2, e, e2, hl⟩ := o.rdv (K := K) hk
  obtain ⟨v1, e1, z⟩ := h _ G2 (en1 hl) H e2 Q fun w G3 H3 g hw => q w G H3 (rV v) M kk (o.ex g.h) (Ex.refl _) hw
  cases e1
  exact z
/-- xs.append(e) -/
theorem e_app (k : Nat) (hi : Γ[i]? = some (some (rV (.ref p)))) (h : EW W Γ M te (fun r M' => ∃ rs, M'[k]? = some (lstR p rs) ∧ rs.length < 50000 ∧ κ (rV .non) (M'.set k (lstR p (rs ++ [r])))) ε) (hk : M[k]? = some (lstR p rs)) : EW W Γ M (tBM K "list" rAppend (tVar i) (tCons te tNil)) κ ε := fun B G H σ o en Q q x => by
  obtain ⟨v, hv1, hv2⟩ := en.get hi
  obtain rfl : v = V.ref p := hv2
  obtain ⟨ws0, hp0, ra0⟩ := o.m _ (List.mem_of_getElem? hk)
  refine ⟨.ref p, hv1, Or.inl ⟨rfl, ws0, sq_of hp0⟩, h B G H σ o en _ (fun v G2 H2 r M' z o2 e hv => ?_) x⟩
  obtain ⟨rs, hk2, hz, hq⟩ := z
  obtain ⟨ws, hp, ra⟩ := o2.m _ (List.mem_of_getElem? hk2)
  have gp : G2 p = none := o2.z p (mem_feet (List.mem_of_getElem? hk2) (List.mem_singleton.mpr rfl))
  refine ⟨p, ws, v, rfl, rfl, hp, sz_lt (by rw [ra.len]; omega), q .non G2 _ (rV .non) _ hq (o2.chg (R' := lstR p (rs ++ [r])) hk2 rfl rfl (Ex.refl _) (fun a u z n => ?_) (Ex.mut o2.i gp) (fun _ _ _ y => y) ⟨ws ++ [v], upd_same, ra.snoc hv⟩) e rfl⟩
  rw [upd_ne fun q => n (List.mem_singleton.mpr q)]
  exact z
/-! fields of tables -/
theorem f_tab {m : List Nat} {f : Str} (h : EvX [some (rTab K C m)] (tFld K (tVar 0) f) r) (k : κ r M) : UM (fun x H1 Q => ∃ a C dx fs v, x = .ref a ∧ H1 a = some (.ins C dx fs) ∧ Cls K C ∧ NoAttr K C f ∧ fs.lookup f = some v ∧ Q v H1) (rTab K C m) M κ := fun B G H x o hx Q q => by
  obtain ⟨v1, e1, z⟩ := h _ G (en1 hx) H o.i Q fun v G2 H2 g hv => q v G2 H2 r M k (o.gr g) g.g hv
  cases e1
  exact z
theorem mk_tab {m : List Nat} (w : Wf n m) (h1 : 1 ≤ n) (h6 : n ≤ 6) {E : XK} (k : κ (rTab K C m) M) : AM (fun vs H1 Q => ∀ x dx, H1 x = none → H1 dx = none → dx ≠ x → spTab K C (.ref x :: (vs ++ [])) (upd (upd H1 dx (.own x)) x (.ins C dx [])) (fun v H2 => v = .non ∧ Q (.ref x) H2) E) [rLL K (m.map bitsN)] M κ := fun B G H vs o ra Q q => by
  obtain ⟨x, rfl, hx⟩ := ra1 ra
  have z : EvX [some (rLL K (m.map bitsN))] (tMake C (spTab K C) [] E (tCons (tVar 0) tNil)) (rTab K C m) := x_tabRows (x_v rfl) w h1 h6
  obtain ⟨v1, e1, z2⟩ := z _ G (en1 hx) H o.i Q fun v G2 H2 g hv => q v G2 H2 _ M k (o.gr g) g.g hv
  cases e1
  exact z2
end
/-! more readings -/
section
variable {Γ : Ctx} {M : List Re} {ta tb : TE} {r r1 r2 : Rp} {K : PySem.W.Frag} {C : Addr} {m n : Nat} {a b : Int} {κ : KV}
theorem x_eqI (ha : EvX Γ ta (rI a)) (hb : EvX Γ tb (rI b)) : EvX Γ (tOp rEq ta tb) (rB (decide (a = b))) := x_is (x_eqV ha hb) (by rw [dec_int])
theorem x_neI (ha : EvX Γ ta (rI a)) (hb : EvX Γ tb (rI b)) : EvX Γ (tOp rNe ta tb) (rB (!decide (a = b))) := x_is (x_neV ha hb) (by rw [dec_int])
theorem x_shlN1 (ha : EvX Γ ta (rV (.int 1))) (h : EvX Γ tb (nI n)) (hn : n ≤ 64) : EvX Γ (tOp (L2.rI CPow fun i j => .int (i * 2 ^ j.toNat)) ta tb) (nI (2 ^ n)) := x_is (x_I ha h ⟨by omega, by omega, by decide⟩) (by rw [shl_nat])
theorem x_ixLL {l : List (List Nat)} (ha : EvX Γ ta (rLL K l)) (hb : EvX Γ tb (nI n)) (h : n < l.length) : EvX Γ (tOp (rIxL K) ta tb) (rLn K (l.getD n [])) := x_ixLm [] ha hb h
theorem x_eqLn0 {l : List Nat} (ha : EvX Γ ta (rLn K l)) (hb : EvX Γ tb (rL K [])) : EvX Γ (tOp (rEqD K) ta tb) (rB (decide (l = []))) := x_eqLn (m := []) ha hb
theorem x_neLn0 {l : List Nat} (ha : EvX Γ ta (rLn K l)) (hb : EvX Γ tb (rL K [])) : EvX Γ (tOp (rNeD K) ta tb) (rB (!decide (l = []))) := x_neLn (m := []) ha hb
def NN (r : Rp) : Prop := ∀ v G, r.p v G → v ≠ V.non
theorem nn_tab {m : List Nat} : NN (rTab K C m) := fun v G h e => by
  obtain ⟨a, _, _, _, rfl, _⟩ := h
  cases e
theorem nn_L {rs : List Rp} : NN (rL K rs) := fun v G h e => by
  obtain ⟨a, _, rfl, _⟩ := h
  cases e
theorem nn_T {rs : List Rp} : NN (rT K rs) := fun v G h e => by
  obtain ⟨a, _, rfl, _⟩ := h
  cases e
theorem nn_I : NN (rI a) := fun v G h e => by
  obtain rfl : v = V.int a := h
  cases e
theorem om_isN0 (k : κ (rB true) M) : OM (fun x y H Q => y = V.non ∧ Q (.bl (decide (x = .non))) H) (rV .non) (rV .non) M κ := fun B G H x y o hx hy Q q => by
  obtain rfl : x = V.non := hx
  obtain rfl : y = V.non := hy
  exact ⟨rfl, q _ G H _ M k o (Ex.refl _) rfl⟩
theorem om_notN0 (k : κ (rB false) M) : OM (fun x y H Q => y = V.non ∧ Q (.bl (!decide (x = .non))) H) (rV .non) (rV .non) M κ := fun B G H x y o hx hy Q q => by
  obtain rfl : x = V.non := hx
  obtain rfl : y = V.non := hy
  exact ⟨rfl, q _ G H _ M k o (Ex.refl _) rfl⟩
theorem om_isN1 (hr : NN r) (k : κ (rB false) M) : OM (fun x y H Q => y = V.non ∧ Q (.bl (decide (x = .non))) H) r (rV .non) M κ := fun B G H x y o hx hy Q q => by
  obtain rfl : y = V.non := hy
  exact ⟨rfl, q _ G H _ M k o (Ex.refl _) (by rw [decide_eq_false (hr x G hx)]; rfl)⟩
theorem om_notN1 (hr : NN r) (k : κ (rB true) M) : OM (fun x y H Q => y = V.non ∧ Q (.bl (!decide (x = .non))) H) r (rV .non) M κ := fun B G H x y o hx hy Q q => by
  obtain rfl : y = V.non := hy
  exact ⟨rfl, q _ G H _ M k o (Ex.refl _) (by rw [decide_eq_false (hr x G hx)]; rfl)⟩
end
/-! comprehensions, their answers found by the walk -/
section
variable {α : Type} {W : WX} {Γ : Ctx} {M : List Re} {te ta tl : TE} {t : TT} {K : PySem.W.Frag} {j n : Nat} {κ : KV} {ε : KX} {vs : List Nat} {l : List α} {ρ rr : α → Rp} {f : α → Bool}
theorem e_lcL0 (h : EvX Γ tl (rL K (l.map ρ))) (hz : l.length ≤ 40000) (he : ∀ a, a ∈ l → EvX ((wipeC Γ vs).set j (some (ρ a))) te (rr a)) (hj : j ∈ vs) (k : κ (rL K (l.map rr)) M) : EW W Γ M (tLc (iList K tl) (gName j) tYes te vs) κ ε := e_xn K (xn_lcL0 l ρ rr h hz he hj) k
theorem e_lcL (h : EvX Γ tl (rL K (l.map ρ))) (hz : l.length ≤ 40000) (ht : ∀ a, a ∈ l → EvTX ((wipeC Γ vs).set j (some (ρ a))) t (f a)) (he : ∀ a, a ∈ l → f a = true → EvX ((wipeC Γ vs).set j (some (ρ a))) te (rr a)) (hj : j ∈ vs) (k : κ (rL K ((l.filter f).map rr)) M) : EW W Γ M (tLc (iList K tl) (gName j) t te vs) κ ε := e_xn K (xn_lcL l ρ f rr h hz ht he hj) k
theorem e_lcT0 (h : EvX Γ tl (rT K (l.map ρ))) (hz : l.length ≤ 40000) (he : ∀ a, a ∈ l → EvX ((wipeC Γ vs).set j (some (ρ a))) te (rr a)) (hj : j ∈ vs) (k : κ (rL K (l.map rr)) M) : EW W Γ M (tLc (iTup K tl) (gName j) tYes te vs) κ ε := e_xn K (xn_lcT0 l ρ rr h hz he hj) k
theorem e_lcT (h : EvX Γ tl (rT K (l.map ρ))) (hz : l.length ≤ 40000) (ht : ∀ a, a ∈ l → EvTX ((wipeC Γ vs).set j (some (ρ a))) t (f a)) (he : ∀ a, a ∈ l → f a = true → EvX ((wipeC Γ vs).set j (some (ρ a))) te (rr a)) (hj : j ∈ vs) (k : κ (rL K ((l.filter f).map rr)) M) : EW W Γ M (tLc (iTup K tl) (gName j) t te vs) κ ε := e_xn K (xn_lcT l ρ f rr h hz ht he hj) k
theorem e_lcR0 {rr : Nat → Rp} (K : PySem.W.Frag) (h : EvX Γ ta (nI n)) (hz : n ≤ 40000) (he : ∀ a, a < n → EvX ((wipeC Γ vs).set j (some (nI a))) te (rr a)) (hj : j ∈ vs) (k : κ (rL K ((List.range n).map rr)) M) : EW W Γ M (tLc (iRng1 (tCons ta tNil)) (gName j) tYes te vs) κ ε := e_xn K (xn_lcR0 n rr h hz he hj) k
theorem e_lcR {rr : Nat → Rp} {f : Nat → Bool} (K : PySem.W.Frag) (h : EvX Γ ta (nI n)) (hz : n ≤ 40000) (ht : ∀ a, a < n → EvTX ((wipeC Γ vs).set j (some (nI a))) t (f a)) (he : ∀ a, a < n → f a = true → EvX ((wipeC Γ vs).set j (some (nI a))) te (rr a)) (hj : j ∈ vs) (k : κ (rL K (((List.range n).filter f).map rr)) M) : EW W Γ M (tLc (iRng1 (tCons ta tNil)) (gName j) t te vs) κ ε := e_xn K (xn_lcR n f rr h hz ht he hj) k
end
/-! tests in the middle of values -/
section
variable {W : WX} {Γ : Ctx} {M : List Re} {ta tb : TE} {t : TT} {κ : KV} {ε : KX} {c d : Bool}
theorem e_and (h1 : EvX Γ ta (rB c)) (h2 : c = true → EvX Γ tb (rB d)) (k : κ (rB (c && d)) M) : EW W Γ M (tAndV ta tb) κ ε := e_x (x_and h1 h2) k
theorem e_or (h1 : EvX Γ ta (rB c)) (h2 : c = false → EvX Γ tb (rB d)) (k : κ (rB (c || d)) M) : EW W Γ M (tOrV ta tb) κ ε := e_x (x_or h1 h2) k
theorem e_not (h1 : EvX Γ ta (rB c)) (k : κ (rB (!c)) M) : EW W Γ M (tNotV ta) κ ε := e_x (x_not h1) k
end
/-- a list of our own is given back -/
theorem w_retF {W : WX} {Γ : Ctx} {M : List Re} {κ : Kn} {p : Addr} {rs : List Rp} {i : Nat} (K : PySem.W.Frag) (k : Nat) (hk : M[k]? = some (lstR p rs)) (hi : Γ[i]? = some (some (rV (.ref p)))) (h : κ.rt (rL K rs) (M.eraseIdx k)) : WP W Γ M (tRet (tVar i)) κ := w_frz K k i hk hi (w_ret (x_v (by
  rw [List.getElem?_set_self']
  have : Γ[i]? = some (some (rV (.ref p))) := hi
  rw [this]; rfl)) h)
theorem t_and0 {Γ : Ctx} {t u : TT} {c : Bool} (h1 : EvTX Γ t c) (hc : c = false) : EvTX Γ (tAnd t u) false := fun σ G en H e Q q => h1 σ G en H e _ fun H1 e1 => by
  subst hc
  show Q false H1
  exact q H1 e1
theorem t_or1 {Γ : Ctx} {t u : TT} {c : Bool} (h1 : EvTX Γ t c) (hc : c = true) : EvTX Γ (tOr t u) true := fun σ G en H e Q q => h1 σ G en H e _ fun H1 e1 => by
  subst hc
  show Q true H1
  exact q H1 e1
theorem x_and0 {Γ : Ctx} {ta tb : TE} {c : Bool} (h1 : EvX Γ ta (rB c)) (hc : c = false) : EvX Γ (tAndV ta tb) (rB false) := fun σ G en H e Q q => h1 σ G en H e _ fun v G1 H1 g hv => by
  subst hc
  obtain rfl : v = V.bl false := hv
  exact ⟨false, rfl, q _ G1 H1 g rfl⟩
theorem x_or1 {Γ : Ctx} {ta tb : TE} {c : Bool} (h1 : EvX Γ ta (rB c)) (hc : c = true) : EvX Γ (tOrV ta tb) (rB true) := fun σ G en H e Q q => h1 σ G en H e _ fun v G1 H1 g hv => by
  subst hc
  obtain rfl : v = V.bl true := hv
  exact ⟨true, rfl, q _ G1 H1 g rfl⟩
/-- a written number -/
theorem e_cn {W : WX} {Γ : Ctx} {M : List Re} {κ : KV} {ε : KX} {n : Nat} (k : κ (nI (OfNat.ofNat n)) M) : EW W Γ M (tC (.int (@OfNat.ofNat Int n _))) κ ε := e_c k
theorem am_listL {M : List Re} {κ : KV} {K : PySem.W.Frag} {rs : List Rp} (k : κ (rL K rs) M) : AM (rListS K) [rL K rs] M κ := am1n (K := K) (xn_list (x_v rfl)) k
theorem am_listT {M : List Re} {κ : KV} {K : PySem.W.Frag} {rs : List Rp} (k : κ (rL K rs) M) : AM (rListS K) [rT K rs] M κ := am1n (K := K) (xn_listT (x_v rfl)) k
end Mu

namespace Mu
open PySem PySem.Spec PyProof.Rows L2 Evl
/-! ### C(..) and o.m(..) that may raise -/
section
variable {X : Cx} {CX : CXT} {k : Nat} {f C : Addr} {fd : FuncData} {ps : List Str} {sp : Sp} {x : Str} {p pos apos : Pos} {e o : Expr} {es : List Expr} {t : TA} {te : TE}
theorem run_makeS {E : XK} {pins : List (Addr × Obj)} {σ : L2.St} {H : Hp} {s : Shared} {Q : VK} {us : List Value} {vs : List V} (M : Mk X.K C f) (F : FnOk X.prog X.w X.K X.mg X.base CX k f fd ps sp) (hr : Room (k + 1) X.A) (hb : Binds X.K fd ps [])
    (hx : PassesAt CX X σ E) (I : Inv X pins σ H s) (r : Vals vs us)
    (h : ∀ x dx, H x = none → H dx = none → dx ≠ x → sp (.ref x :: vs) (upd (upd H dx (.own x)) x (.ins C dx [])) (fun v H2 => v = .non ∧ Q (.ref x) H2) E) :
    wpAny (model X.prog X.w) X.A (call (.ref C) us) (EP X pins σ Q) X.xe s := by
  have hq := h (s.heap.objs.size + 1) s.heap.objs.size (I.hok.fresh (Nat.le_succ _)) (I.hok.fresh (Nat.le_refl _)) (Nat.ne_of_lt (Nat.lt_succ_self _))
  have I2 := Inv.made (C := C) I
  have r2 : Vals (V.ref (s.heap.objs.size + 1) :: vs) (Value.ref (s.heap.objs.size + 1) :: us) := .cons rfl r
  have hl : (Value.ref (s.heap.objs.size + 1) :: us ++ []).length = ps.length := by
    rw [List.append_nil]
    have e := r2.length
    rw [F.len _ _ _ _ hq] at e
    exact e.symm
  have b2 := hb _ (Value.ref (s.heap.objs.size + 1) :: us) I2.kIn hl
  rw [List.append_nil] at b2
  refine wpAny_call (make_map (f := f) I.kIn M.makes M.init (beq_iff_eq.mp M.fn) (codeAny_mono (F.run _ X.stack _ _ ⟨Value.ref (s.heap.objs.size + 1) :: us, []⟩ (Value.ref (s.heap.objs.size + 1) :: us) _ _ E (hr.make C us [])
    (I2.env0.make C us []) b2 r2 hq) fun r s' hq' => ?_))
  cases r with
  | error e => exact hx pins _ _ e s' I2 hq'
  | ok fl =>
    cases fl with
    | ret u =>
      obtain ⟨v, H', I3, rv, ev, q3⟩ := I2.after hq'
      subst ev
      exact ⟨rv, ⟨V.ref (s.heap.objs.size + 1), H', I3, rfl, q3⟩⟩
    | next => exact False.elim hq'
    | brk => exact False.elim hq'
    | cont => exact False.elim hq'
def tMakeS (C : Addr) (sp : Sp) (E : L2.St → XK) (t : TA) : TE := fun σ H Q => t σ H fun vs H1 => ∀ x dx, H1 x = none → H1 dx = none → dx ≠ x → sp (.ref x :: vs) (upd (upd H1 dx (.own x)) x (.ins C dx [])) (fun v H2 => v = .non ∧ Q (.ref x) H2) (E σ)
theorem pe_makeS {E : L2.St → XK} (M : Mk X.K C f) (F : FnOk X.prog X.w X.K X.mg X.base CX k f fd ps sp) (hr : Room (k + 1) X.A) (hg : Gl X x) (hm : X.mg x = some (.ref C)) (hb : Binds X.K fd ps []) (hx : ∀ σ, PassesAt CX X σ (E σ))
    (ha : PA X (e :: es) t) (hdb : (x == ("__debug__" : Str)) = false := by decide) (he : starEach (e :: es) X.env = (false, eval e X.env) :: starEach es X.env := by rfl) (hpl : (backTo pos (starEach es X.env)).any (·.1) = false := by rfl) :
    PE X (.Call (.Name x p) (e :: es) [] pos) (tMakeS C sp E t) := by
  refine ⟨fun pins s σ H Q I h => ?_⟩
  refine wpAny_Call_Name_kw (ld_glob I hg hm ?_ hdb)
  refine PySem.W.callWith_K (h₀ := X.base) I.ok.mod.kin M.kp (thn (ha.run pos pins s σ H _ I h) fun us s1 ⟨vs, H1, I1, r, q⟩ => ⟨I1.kIn, ?_⟩) he hpl
  exact run_makeS M F hr hb (hx σ) I1 r q
end
/-! ### a bound method's call -/
theorem callWith_bound {M : Model} {A : Around} {E : Value → Shared → Prop} {s : Shared} {pos : Pos} {u f2 a : Addr} {args : List (Bool × Sem Value)} {Q : Value → Shared → Prop} (hplain : args.any (·.1) = false)
    (h : wpAny M A (evalArgs (.ref u) true args []) (fun ar s₁ => s₁.heap.get? u = some { cls := .type "method", dict := none, data := .fields #[.ref f2, .ref a], slots := #[] } ∧ (∃ o fd, s₁.heap.get? f2 = some o ∧ o.data = .func fd) ∧ wpAny M A (call (.ref u) ar.pos ar.kw) Q E s₁) E s) : wpAny M A (callWith pos (.ref u) [] args []) Q E s := by
  unfold callWith
  refine wpAny_bind (wpAny_holding (wpAny_mono h (fun ar s₁ h₁ => wpAny_bind (wpAny_standAt ?_)) fun _ _ y => y))
  obtain ⟨ho, ⟨o, fd, hf, hd⟩, hcall⟩ := h₁
  have tail : ∀ {t : Sem Value}, wpAny M A t Q E s₁ → wpAny M A (t >>= fun r => holding [r] point >>= fun _ => pure r) Q E s₁ :=
    fun ht => wpAny_bind (wpAny_mono ht (fun r s₂ hr => wpAny_bind (wpAny_holding (wpAny_point (wpAny_pure hr)))) fun _ _ x => x)
  simp only [hplain, List.any_nil, Bool.or_false]
  refine wpAny_bind (m := keeperOf (.ref u)) ?_
  unfold keeperOf
  refine wpAny_bind (wpAny_load ho ?_)
  simp only [show (Value.type "method" != Value.type "method") = false by decide, Bool.false_eq_true, if_false]
  show wpAny _ _ (load f2 >>= _) _ _ _
  refine wpAny_bind (wpAny_load hf ?_)
  rw [hd]
  refine wpAny_pure ?_
  first
    | refine wpAny_ite ?_
    | skip
  split <;> first
    | exact tail hcall
    | exact tail (by unfold callMarked; exact PySem.Calls.wpAny_keep hcall)

/-! ### super().m(..) of a class of one's own -/
section
variable {CX CX2 : CXT} {P : Program} {w : World} {K : PySem.W.Frag} {mg : Str → Option Value} {base : Heap} {N ps ps2 : List Str} {x qual : Str} {params : Arguments} {body : List Stmt} {scope : Scope} {file : Str} {D f f2 : Addr} {fd fd2 : FuncData} {cda cc : Addr} {A : Around} {outer : List Env} {s0 : Shared} {H0 : Hp} {E0 : XK}
  {pins : List (Addr × Obj)} {σ : L2.St} {H : Hp} {s : Shared} {fb : List Stmt} {k2 : Nat} {sp2 : Sp} {m : Str}
def tSup (K : PySem.W.Frag) (D : Addr) (m : Str) (f2 : Addr) (sp : Sp) (E : L2.St → XK) (ta : TA) : TE := fun σ H Q => ∃ a C dx fs, σ[0]? = some (some (.ref a)) ∧ H a = some (.ins C dx fs) ∧ PySem.W.mroIn K C (.ref D) = some true ∧ PySem.W.ks_superIn K C D m = some (some (.ref f2)) ∧ ta σ H fun vs H1 => sp (.ref a :: vs) H1 Q (E σ)
theorem pea_supMeth {p0 p1 p2 pos : Pos} {e : Expr} {es : List Expr} {ta : TA} {self : Str} {pl : Sem Bool} {E : L2.St → XK} (F : FunS K x qual params body scope file D f fd cda cc) (S : FsScope N ps scope) (pf : PF P file) (hm : mg "super" = none)
    (hp : (params.posonlyargs ++ params.args).head?.map (·.arg) = some self) (hN : N[0]? = some self) (hself : scope.names.lookup self = some .local)
    (hl2 : ∃ oc od osl, K.lookup f2 = some ⟨oc, od, .func fd2, osl⟩) (ht2 : PySem.W.typeIn K (.ref f2) = some (.type "function"))
    (F2 : FnOk P w K mg base CX2 k2 f2 fd2 ps2 sp2) (hr : Room k2 (A.deeper (PySem.W.ksEnv qual scope s0.heap.objs.size f (.ref cda) cc))) (hb : Binds K fd2 ps2 []) (hx : ∀ σ, PassesAt CX2 (cxS CX P w K mg base N qual scope f cda cc A outer s0 H0 E0) σ (E σ))
    (ha : PA (cxS CX P w K mg base N qual scope f cda cc A outer s0 H0 E0) (e :: es) ta) (hat : (m == ("__class__" : Str)) = false)
    (hev : eval (.Call (.Attribute (.Call (.Name "super" p0) [] [] p1) m p2) (e :: es) [] pos) (PySem.W.ksEnv qual scope s0.heap.objs.size f (.ref cda) cc) = (do
      let ov ← attributeBase (.Call (.Name "super" p0) [] [] p1) m (PySem.W.ksEnv qual scope s0.heap.objs.size f (.ref cda) cc) (eval (.Call (.Name "super" p0) [] [] p1) (PySem.W.ksEnv qual scope s0.heap.objs.size f (.ref cda) cc))
      standAt p2.atName
      let (fn1, first) ← holding [ov] (getMethod ov m pl)
      callWith pos fn1 first (backTo pos (starEach (e :: es) (PySem.W.ksEnv qual scope s0.heap.objs.size f (.ref cda) cc))) []) := by rfl)
    (he : starEach (e :: es) (PySem.W.ksEnv qual scope s0.heap.objs.size f (.ref cda) cc) = (false, eval e (PySem.W.ksEnv qual scope s0.heap.objs.size f (.ref cda) cc)) :: starEach es (PySem.W.ksEnv qual scope s0.heap.objs.size f (.ref cda) cc) := by rfl) (hpl : (backTo pos (starEach es (PySem.W.ksEnv qual scope s0.heap.objs.size f (.ref cda) cc))).any (·.1) = false := by rfl) :
    PEA (cxS CX P w K mg base N qual scope f cda cc A outer s0 H0 E0) fb (.Call (.Attribute (.Call (.Name "super" p0) [] [] p1) m p2) (e :: es) [] pos) (tSup K D m f2 sp2 E ta) := by
  refine ⟨fun pins s σ H Q I h => ?_⟩
  obtain ⟨a, C, dx, fs, hσ, hH, hsub, hsup, h⟩ := h
  obtain ⟨mA, J, _⟩ := ins_get I.hok hH
  obtain ⟨od, J, _⟩ := J.look
  refine ks_wpAt_MethodCall (sup_base F S pf hm hp hN hself hat I hσ J.at_ J.cls (fun c z => ?_) hsub fun h' hso k => ?_) hev
  · have := J.no
    unfold PySem.W.notCls at this
    rw [z] at this
    exact Bool.noConfusion this
  have I1 := I.kept (h' := h') (t' := s.toks) k
  have kin : K.In h' := I1.kIn
  obtain ⟨mA1, J1, _⟩ := ins_get I1.hok hH
  obtain ⟨od1, J1, _⟩ := J1.look
  obtain ⟨oc2, od2, osl2, lk2⟩ := hl2
  have hof := kin _ _ lk2
  have hofc : oc2 = .type "function" := by
    have ht' : (K.lookup f2).map (·.cls) = some (.type "function") := ht2
    rw [lk2] at ht'
    exact Option.some.inj ht'
  cases hc : PySem.W.clsIn K C with
  | none => unfold PySem.W.ks_superIn at hsup; rw [hc] at hsup; cases hsup
  | some cd =>
    unfold PySem.W.ks_superIn at hsup
    rw [hc] at hsup
    obtain ⟨hh, g, d, tk, os⟩ := s
    have I1' : Inv (cxS CX P w K mg base N qual scope f cda cc A outer s0 H0 E0) pins σ H ⟨h', g, d, tk, os⟩ := I1
    refine ks_wpAny_getMethod_super hso (PySem.W.looks_opaque kin F.op) (l₀ := cd.mro) ?_ rfl kin hsup hof hofc (PySem.W.ks_ne kin J1 hc) hat ?_
    · exact fun A Q E s k q => wpAny_bind ((PySem.W.looks_clsIn kin hc) A _ E s k (wpAny_pure q))
    have I2 := I1'.kept (h' := h'.push { cls := .type "method", data := .fields #[.ref f2, .ref a] }) (t' := tk + 1) fun b o z => Heap.get?_push_of_some _ z
    have hq0 : (h'.push { cls := .type "method", data := .fields #[.ref f2, .ref a] }).get? h'.objs.size = some { cls := .type "method", data := .fields #[.ref f2, .ref a] } := Heap.get?_push_at rfl rfl
    have I3 := Inv.pin1 I2 hq0 (.inr trivial) (I1'.hok.fresh (Nat.le_refl _)) (Ne.symm (Nat.ne_of_lt I1'.lt)) (I1'.nofs (Nat.le_refl _)) (fun v z => nomatch z)
    show wpAny _ _ (callWith pos (.ref h'.objs.size) [] (backTo pos (starEach (e :: es) _)) []) _ _ _
    rw [he]
    refine callWith_bound (f2 := f2) (a := a) (by show (false || (backTo pos (starEach es _)).any (·.1)) = false; rw [hpl]; rfl) ?_
    have ra := ha.run pos _ _ σ H _ I3 h
    rw [he] at ra
    refine PySem.Calls.evalArgs_plain (thn ra fun us s3 ⟨vs, H3, J3, rv, q⟩ => ?_)
    obtain ⟨hu, _⟩ := J3.pin (h'.objs.size, { cls := .type "method", data := .fields #[.ref f2, .ref a] }) (List.mem_append_right _ List.mem_cons_self)
    refine ⟨hu, ⟨_, _, J3.kIn _ _ lk2, rfl⟩, ?_⟩
    have r2 : Vals (V.ref a :: vs) (Value.ref a :: us) := .cons rfl rv
    have hl : (Value.ref a :: us ++ []).length = ps2.length := by
      rw [List.append_nil, ← r2.length]
      exact F2.len _ _ _ _ q
    have b2 := hb s3 (Value.ref a :: us) J3.kIn hl
    rw [List.append_nil] at b2
    refine wpAny_call (ks_codeAny_call_bound hu (codeAny_mono (F2.run _ _ s3 H3 ⟨Value.ref a :: us, []⟩ (Value.ref a :: us) (V.ref a :: vs) Q (E σ) hr J3.env0 b2 r2 q) fun r s' hq => ?_))
    cases r with
    | error er => exact hx σ _ H3 s3 er s' J3 hq
    | ok fl =>
      cases fl with
      | ret u =>
        obtain ⟨v, H', I', rv', q'⟩ := J3.after hq
        exact ⟨v, H', I'.pins_of fun p hp => I'.pin p (List.mem_append_right _ (List.mem_cons_of_mem _ hp)), rv', q'⟩
      | next => exact False.elim hq
      | brk => exact False.elim hq
      | cont => exact False.elim hq
end
end Mu

namespace Mu
open PySem PySem.Spec PyProof.Rows L2 Evl
/-! ### instances by their fields -/
abbrev FL := List (Str × Rp)
abbrev FsR (G : Hp) : List (Str × V) → FL → Prop := Paired fun a b => a.1 = b.1 ∧ b.2.p a.2 G
theorem FsR.mono {G G' : Hp} (e : Ex G G') : ∀ {fs : List (Str × V)} {rs : FL}, FsR G fs rs → FsR G' fs rs
  | _, _, .nil => .nil
  | _, _, .cons (b := b) h t => .cons ⟨h.1, b.2.mono e h.2⟩ (FsR.mono e t)
theorem FsR.len {G : Hp} {fs : List (Str × V)} {rs : FL} (h : FsR G fs rs) : fs.length = rs.length := Paired.length h
theorem FsR.get {G : Hp} {f : Str} {r : Rp} : ∀ {fs : List (Str × V)} {rs : FL}, FsR G fs rs → rs.lookup f = some r → ∃ v, fs.lookup f = some v ∧ r.p v G
  | _, _, .nil, h => by cases h
  | (g, v) :: fs, (g', r') :: rs, .cons h t, e => by
    obtain ⟨h1, h2⟩ := h
    have h1' : g = g' := h1
    subst h1'
    rw [List.lookup_cons] at e ⊢
    cases q : f == g with
    | true =>
      rw [q] at e
      obtain rfl : r' = r := Option.some.inj e
      exact ⟨v, rfl, h2⟩
    | false =>
      rw [q] at e
      exact FsR.get t e
theorem FsR.noget {G : Hp} {f : Str} : ∀ {fs : List (Str × V)} {rs : FL}, FsR G fs rs → rs.lookup f = none → fs.lookup f = none
  | _, _, .nil, h => rfl
  | (g, v) :: fs, (g', r') :: rs, .cons h t, e => by
    obtain ⟨h1, h2⟩ := h
    have h1' : g = g' := h1
    subst h1'
    rw [List.lookup_cons] at e ⊢
    cases q : f == g with
    | true => rw [q] at e; cases e
    | false => rw [q] at e; exact FsR.noget t e
theorem FsR.put {G : Hp} {f : Str} {r : Rp} {v : V} (hr : r.p v G) : ∀ {fs : List (Str × V)} {rs : FL}, FsR G fs rs → rs.lookup f = none → FsR G (putF f v fs) (rs ++ [(f, r)])
  | _, _, .nil, _ => .cons ⟨rfl, hr⟩ .nil
  | (g, x) :: fs, (g', r') :: rs, .cons h t, e => by
    obtain ⟨h1, h2⟩ := h
    have h1' : g = g' := h1
    subst h1'
    rw [List.lookup_cons] at e
    cases q : f == g with
    | true => rw [q] at e; cases e
    | false =>
      rw [q] at e
      have ne : ¬ g = f := fun z => by subst z; simp at q
      show FsR G (if g = f then (g, v) :: fs else (g, x) :: putF f v fs) ((g, r') :: (rs ++ [(f, r)]))
      rw [if_neg ne]
      exact .cons ⟨rfl, h2⟩ (FsR.put hr t e)
def setR (f : Str) (r : Rp) : FL → FL
  | [] => []
  | (g, x) :: rs => if g = f then (g, r) :: rs else (g, x) :: setR f r rs
theorem FsR.set {G : Hp} {f : Str} {r r0 : Rp} {v : V} (hr : r.p v G) : ∀ {fs : List (Str × V)} {rs : FL}, FsR G fs rs → rs.lookup f = some r0 → FsR G (putF f v fs) (setR f r rs)
  | _, _, .nil, h => by cases h
  | (g, x) :: fs, (g', r') :: rs, .cons h t, e => by
    obtain ⟨h1, h2⟩ := h
    have h1' : g = g' := h1
    subst h1'
    rw [List.lookup_cons] at e
    show FsR G (if g = f then (g, v) :: fs else (g, x) :: putF f v fs) (if g = f then (g, r) :: rs else (g, r') :: setR f r rs)
    by_cases c : g = f
    · rw [if_pos c, if_pos c]
      exact .cons ⟨rfl, hr⟩ t
    · have q : (f == g) = false := by simpa using fun z : f = g => c z.symm
      rw [q] at e
      rw [if_neg c, if_neg c]
      exact .cons ⟨rfl, h2⟩ (FsR.set hr t e)
/-- an instance that stays | of our own -/
def rIns (C : Addr) (fs : FL) : Rp := ⟨fun v G => ∃ a dx ws, v = .ref a ∧ G a = some (.ins C dx ws) ∧ FsR G ws fs, fun e ⟨a, dx, ws, h1, h2, h3⟩ => ⟨a, dx, ws, h1, e _ _ h2, h3.mono e⟩⟩
def insR (own : Bool) (p C : Addr) (fs : FL) : Re where
  own := own
  ft := [p]
  p := fun G H => ∃ dx ws, H p = some (.ins C dx ws) ∧ FsR G ws fs
  mono := fun e ⟨dx, ws, h1, h2⟩ => ⟨dx, ws, h1, h2.mono e⟩
  loc := fun k ⟨dx, ws, h1, h2⟩ => ⟨dx, ws, k p (List.mem_singleton.mpr rfl) _ h1, h2⟩
  at_ := fun ⟨dx, ws, h1, _⟩ a ha => by rw [List.mem_singleton.mp ha]; exact ⟨_, h1⟩
section
variable {W : WX} {Γ : Ctx} {M : List Re} {te ta tb tc tl : TE} {r r1 r2 r3 : Rp} {rs ss : List Rp} {K : PySem.W.Frag} {C D b p : Addr} {i j k : Nat} {v w x y : V} {m n : Nat} {sp : Sp} {κ : KV} {ε : KX} {own : Bool} {fs : FL} {f : Str} {B : Ba} {G H G2 H2 : Hp}
theorem nn_ins : NN (rIns C fs) := fun v G h e => by
  obtain ⟨a, _, _, rfl, _⟩ := h
  cases e
theorem ins_ins (hf : fs.lookup f = none) : InsR C f (rIns C fs) := fun v G hv => by
  obtain ⟨a, dx, ws, rfl, h2, h3⟩ := hv
  exact ⟨a, dx, ws, rfl, h2, h3.noget hf⟩
theorem f_ins (hc : Cls K C) (hn : NoAttr K C f) (hl : fs.lookup f = some r) (kk : κ r M) : UM (fun x H1 Q => ∃ a C dx fs v, x = .ref a ∧ H1 a = some (.ins C dx fs) ∧ Cls K C ∧ NoAttr K C f ∧ fs.lookup f = some v ∧ Q v H1) (rIns C fs) M κ := fun B G H x o hx Q q => by
  obtain ⟨a, dx, ws, rfl, h2, h3⟩ := hx
  obtain ⟨v, hv, hr⟩ := h3.get hl
  exact ⟨a, C, dx, ws, v, rfl, o.i _ _ h2, hc, hn, hv, q v G H r M kk o (Ex.refl _) hr⟩
theorem f_own (k : Nat) (hk : M[k]? = some (insR own p C fs)) (hc : Cls K C) (hn : NoAttr K C f) (hl : fs.lookup f = some r) (kk : κ r M) : UM (fun x H1 Q => ∃ a C dx fs v, x = .ref a ∧ H1 a = some (.ins C dx fs) ∧ Cls K C ∧ NoAttr K C f ∧ fs.lookup f = some v ∧ Q v H1) (rV (.ref p)) M κ := fun B G H x o hx Q q => by
  obtain rfl : x = V.ref p := hx
  obtain ⟨dx, ws, h2, h3⟩ := o.m _ (List.mem_of_getElem? hk)
  obtain ⟨v, hv, hr⟩ := h3.get hl
  exact ⟨p, C, dx, ws, v, rfl, h2, hc, hn, hv, q v G H r M kk o (Ex.refl _) hr⟩
/-- self.f = e, a new field | an elder one -/
theorem ws_fld {κ : Kn} {fs0 : FL} (k : Nat) (hi : Γ[i]? = some (some (rV (.ref p)))) (hk0 : M[k]? = some (insR own p C fs0)) (hc : Cls K C) (hn : NoAttr K C f) (h : EW W Γ M te (fun r M' => ∃ fs, M'[k]? = some (insR own p C fs) ∧ fs.lookup f = none ∧ fs.length < 900 ∧ κ.nx Γ (M'.set k (insR own p C (fs ++ [(f, r)])))) (κ.ex Γ)) : WP W Γ M (sFld K (tVar i) te f) κ := fun B G H σ D o en d =>
  h B G H σ o en _ (fun v G' H' r M' z o' e' hv => by
    obtain ⟨fs, hk, hl, hz, hq⟩ := z
    obtain ⟨u, hu1, hu2⟩ := en.get hi
    obtain rfl : u = V.ref p := hu2
    have hm := List.mem_of_getElem? hk
    obtain ⟨dx, ws, h2, h3⟩ := o'.m _ hm
    have gp : G' p = none := o'.z p (mem_feet hm (List.mem_singleton.mpr rfl))
    refine ⟨.ref p, hu1, p, C, dx, ws, rfl, h2, hc, hn, by rw [h3.len]; omega, d.nx σ G' _ Γ _ (o'.chg (R' := insR own p C (fs ++ [(f, r)])) hk rfl rfl (Ex.refl _) (fun a u z n => ?_) (Ex.mut o'.i gp) (fun _ _ _ y => y) ⟨dx, _, upd_same, h3.put hv hl⟩) (en.mono e') hq⟩
    rw [upd_ne fun q => n (List.mem_singleton.mpr q)]
    exact z) (fun cls fs dd G' H' M' k o' e' xd => d.ex σ G' H' Γ M' cls dd fs o' (en.mono e') xd k)
theorem ws_fldS {κ : Kn} {fs0 : FL} (k : Nat) (hi : Γ[i]? = some (some (rV (.ref p)))) (hk0 : M[k]? = some (insR own p C fs0)) (hc : Cls K C) (hn : NoAttr K C f) (h : EW W Γ M te (fun r M' => ∃ fs r0, M'[k]? = some (insR own p C fs) ∧ fs.lookup f = some r0 ∧ fs.length < 900 ∧ κ.nx Γ (M'.set k (insR own p C (setR f r fs)))) (κ.ex Γ)) : WP W Γ M (sFld K (tVar i) te f) κ := fun B G H σ D o en d =>
  h B G H σ o en _ (fun v G' H' r M' z o' e' hv => by
    obtain ⟨fs, r0, hk, hl, hz, hq⟩ := z
    obtain ⟨u, hu1, hu2⟩ := en.get hi
    obtain rfl : u = V.ref p := hu2
    have hm := List.mem_of_getElem? hk
    obtain ⟨dx, ws, h2, h3⟩ := o'.m _ hm
    have gp : G' p = none := o'.z p (mem_feet hm (List.mem_singleton.mpr rfl))
    refine ⟨.ref p, hu1, p, C, dx, ws, rfl, h2, hc, hn, by rw [h3.len]; omega, d.nx σ G' _ Γ _ (o'.chg (R' := insR own p C (setR f r fs)) hk rfl rfl (Ex.refl _) (fun a u z n => ?_) (Ex.mut o'.i gp) (fun _ _ _ y => y) ⟨dx, _, upd_same, h3.set hv hl⟩) (en.mono e') hq⟩
    rw [upd_ne fun q => n (List.mem_singleton.mpr q)]
    exact z) (fun cls fs dd G' H' M' k o' e' xd => d.ex σ G' H' Γ M' cls dd fs o' (en.mono e') xd k)
/-- an instance of our own is not changed any more -/
theorem Ok.frzI (o : Ok B G H M) (hk : M[k]? = some (insR true p C fs)) : ∃ G2, Ex G G2 ∧ Ok B G2 H (M.eraseIdx k) ∧ (rIns C fs).p (.ref p) G2 := by
  have hm := List.mem_of_getElem? hk
  obtain ⟨dx, ws, h1, h2⟩ := o.m _ hm
  have gp : G p = none := o.z p (mem_feet hm (List.mem_singleton.mpr rfl))
  have e : Ex G (upd G p (.ins C dx ws)) := Ex.new gp
  refine ⟨upd G p (.ins C dx ws), e, ⟨o.g.trans e, o.l.trans e, o.h, ex_add o.i h1, fun a u z y => ?_, o.k, fun r hr => r.mono e (o.m r (mem_erase hr)), fun a ha => ?_, feet_erase_nodup o.d, fun r hr => o.f r (mem_erase hr)⟩, ⟨p, dx, ws, rfl, upd_same, h2.mono e⟩⟩
  · rcases o.f _ hm p (List.mem_singleton.mpr rfl) with q | q
    · rw [upd_ne (ne_of_none z q)]; exact o.n a u z y
    · exact absurd q.1 (show ¬ (true = false) by decide)
  · obtain ⟨r, hr, hf⟩ := List.mem_flatMap.mp ha
    have ne : a ≠ p := fun q => feet_apart o.d hk hr a hf (List.mem_singleton.mpr q)
    rw [upd_ne ne]
    exact o.z a (feet_erase_sub ha)
/-! ### what an __init__ promises -/
abbrev IOut := FL ⊕ (Value × List (Str × V))
def spIni (OKC : Addr → Prop) (R : List V → Hp → IOut → Prop) : Sp := fun vs H Q E => ∃ p C dx ws G o, vs = .ref p :: ws ∧ OKC C ∧ H p = some (.ins C dx []) ∧ Ex G H ∧ G p = none ∧ R ws G o ∧
  (∀ fs, o = .inl fs → ∀ G2 H2, GrB p G H G2 H2 → (insR false p C fs).p G2 H2 → Q .non H2) ∧ (∀ cls xs, o = .inr (cls, xs) → ∀ d G2 H2, GrB p G H G2 H2 → (∃ u, H2 p = some u) → XdOk G2 xs d → E cls d H2)
theorem Ok.ins {dx : Addr} (e : Ex G H) (gp : G p = none) (hp : H p = some (.ins C dx [])) : Ok ⟨G, H, [p], G⟩ G H [insR false p C []] :=
  ⟨Ex.refl _, Ex.refl _, fun _ _ z _ => z, e, fun _ _ _ y => y, fun a h => by rw [List.mem_singleton.mp h]; exact ⟨_, hp⟩, fun r h => by rw [List.mem_singleton.mp h]; exact ⟨dx, [], hp, .nil⟩, fun a h => by
    have : a ∈ [p] := by simpa [feet, insR] using h
    rw [List.mem_singleton.mp this]; exact gp, by simp [feet, insR], fun r h a ha => by
    rw [List.mem_singleton.mp h] at ha ⊢
    exact .inr ⟨rfl, ha⟩⟩
theorem run_I {t : TS} {σ : L2.St} {Q : VK} {E : XK} {dx : Addr} {o : IOut} (w : WP (fun cls d _ H => E cls d H) Γ [insR false p C []] t { nx := fun _ M' => ∃ fs, o = .inl fs ∧ M' = [insR false p C fs], rt := fun _ _ => False, ex := fun _ cls xs M' => o = .inr (cls, xs) }) (e : Ex G H) (gp : G p = none) (hp : H p = some (.ins C dx [])) (en : En σ G Γ)
    (k1 : ∀ fs, o = .inl fs → ∀ G2 H2, GrB p G H G2 H2 → (insR false p C fs).p G2 H2 → Q .non H2) (k2 : ∀ cls xs, o = .inr (cls, xs) → ∀ d G2 H2, GrB p G H G2 H2 → (∃ u, H2 p = some u) → XdOk G2 xs d → E cls d H2) : t { nx := fun _ H' => Q .non H', rt := Q } σ H :=
  w _ G H σ _ (Ok.ins e gp hp) en ⟨fun σ' G' H' Γ' M' o' en' z => by
    obtain ⟨fs, h1, rfl⟩ := z
    exact k1 fs h1 G' H' o'.toB (o'.m _ List.mem_cons_self), fun _ _ _ _ _ _ _ z => z.elim, fun _ _ _ _ _ _ _ z => z.elim, fun _ _ _ _ _ _ _ z => z.elim, fun σ' G' H' Γ' M' cls d xs o' en' xd z => k2 cls xs z d G' H' o'.toB (o'.k p (List.mem_singleton.mpr rfl)) xd⟩
/-! ### C(..) -/
def MkM (C : Addr) (sp : Sp) (rs : List Rp) (M : List Re) (κ : KV) (ε : KX) : Prop := ∀ B G H vs W σ, Ok B G H M → RA G vs rs → ∀ Q : VK, Go B G κ Q → GoX B G ε W σ → ∀ x dx, H x = none → H dx = none → dx ≠ x → sp (.ref x :: vs) (upd (upd H dx (.own x)) x (.ins C dx [])) (fun v H2 => v = .non ∧ Q (.ref x) H2) (fun cls d H' => W cls d σ H')
theorem e_makeS {ta : TA} (h : EA W Γ M ta (fun rs M1 => MkM C sp rs M1 κ ε) ε) : EW W Γ M (tMakeS C sp (WE W) ta) κ ε := fun B G H σ o en Q q x =>
  h B G H σ o en _ (fun vs G1 H1 rs M1 h1 o1 e1 ra => h1 B G1 H1 vs W σ o1 ra Q (q.up e1) (x.up e1)) x
theorem e_makeI {ta : TA} {E : XK} (h : EA W Γ M ta (fun rs M1 => MkM C sp rs M1 κ (fun _ _ _ => False)) ε) (hE : ∀ vs H Q E', sp vs H Q E' → ∀ E2 : XK, (∀ c d H', E' c d H' → E2 c d H') → sp vs H Q E2) : EW W Γ M (tMake C sp [] E ta) κ ε := fun B G H σ o en Q q x =>
  h B G H σ o en _ (fun vs G1 H1 rs M1 h1 o1 e1 ra => fun y dy hy hdy ne => by
    rw [List.append_nil]
    exact hE _ _ _ _ (h1 B G1 H1 vs (fun _ _ _ _ => False) σ o1 ra Q (q.up e1) (fun _ _ _ _ _ _ z => z.elim) y dy hy hdy ne) E (fun _ _ _ z => z.elim)) x
theorem spIni_E {OKC : Addr → Prop} {R : List V → Hp → IOut → Prop} : ∀ vs H Q E', spIni OKC R vs H Q E' → ∀ E2 : XK, (∀ c d H', E' c d H' → E2 c d H') → spIni OKC R vs H Q E2 := fun vs H Q E' h E2 hi => by
  obtain ⟨p, C, dx, ws, G, o, h1, h2, h3, h4, h5, h6, h7, h8⟩ := h
  exact ⟨p, C, dx, ws, G, o, h1, h2, h3, h4, h5, h6, h7, fun cls xs e d G2 H2 g hu x => hi _ _ _ (h8 cls xs e d G2 H2 g hu x)⟩
/-- the instance stays our own | stays as it is | an error -/
theorem mk_own {OKC : Addr → Prop} {R : List V → Hp → IOut → Prop} (hC : OKC C) (hR : ∀ ws G, RA G ws rs → R ws G (.inl fs)) (kk : ∀ p, κ (rV (.ref p)) (M ++ [insR true p C fs])) : MkM C (spIni OKC R) rs M κ ε := fun B G H vs W σ o ra Q q x p dx hp hdx ne => by
  have hp1 : upd H dx (.own p) p = none := by rw [upd_ne (Ne.symm ne)]; exact hp
  have g1 := Gr.out (o := .own p) o.i hdx
  have g2 : Gr G (upd H dx (.own p)) G (upd (upd H dx (.own p)) p (.ins C dx [])) := Gr.out g1.i hp1
  have gp : G p = none := fresh_back o.i hp
  have o1 : Ok B G (upd (upd H dx (.own p)) p (.ins C dx [])) (M ++ [insR true p C []]) := (o.gr g1).add (R := insR true p C []) g2 (show [p].Nodup by simp) (fun a ha => by rw [List.mem_singleton.mp ha]; exact ⟨hp1, gp⟩) ⟨dx, [], upd_same, .nil⟩
  refine ⟨p, C, dx, vs, G, .inl fs, rfl, hC, upd_same, o1.i, gp, hR vs G ra, fun fs' e G2 H2 g hi => ?_, fun _ _ e => by cases e⟩
  cases e
  have hk : (M ++ [insR true p C []])[M.length]? = some (insR true p C []) := by simp
  obtain ⟨dx', ws, h1, h2⟩ := hi
  have o2 := o1.chg (R' := insR true p C fs) hk rfl rfl g.g (fun a u z n => g.h a u z fun q => n (List.mem_singleton.mpr q)) g.i g.n ⟨dx', ws, h1, h2⟩
  have es : (M ++ [insR true p C []]).set M.length (insR true p C fs) = M ++ [insR true p C fs] := by
    rw [List.set_append_right _ _ (Nat.le_refl _), Nat.sub_self]; rfl
  rw [es] at o2
  exact ⟨rfl, q _ G2 H2 _ _ (kk p) o2 g.g rfl⟩
theorem Go.frzI {Q : VK} (q : Go B G κ Q) : Go B G (fun r M' => ∃ p C fs M, r = rV (.ref p) ∧ M' = M ++ [insR true p C fs] ∧ κ (rIns C fs) M) Q := fun v G' H' r M' z o e hv => by
  obtain ⟨p, C, fs, M, rfl, rfl, k⟩ := z
  obtain rfl : v = V.ref p := hv
  have hk : (M ++ [insR true p C fs])[M.length]? = some (insR true p C fs) := by simp
  obtain ⟨G2, e2, o2, h2⟩ := o.frzI hk
  have es : (M ++ [insR true p C fs]).eraseIdx M.length = M := by simp [List.eraseIdx_append_of_length_le]
  rw [es] at o2
  exact q _ G2 H' _ M k o2 (e.trans e2) h2
theorem mk_ini {OKC : Addr → Prop} {R : List V → Hp → IOut → Prop} (hC : OKC C) (hR : ∀ ws G, RA G ws rs → R ws G (.inl fs)) (kk : κ (rIns C fs) M) : MkM C (spIni OKC R) rs M κ ε := fun B G H vs W σ o ra Q q x p dx hp hdx ne =>
  mk_own (κ := fun r M' => ∃ p C fs M, r = rV (.ref p) ∧ M' = M ++ [insR true p C fs] ∧ κ (rIns C fs) M) (ε := ε) hC hR (fun p => ⟨p, C, fs, M, rfl, rfl, kk⟩) B G H vs W σ o ra Q q.frzI x p dx hp hdx ne
theorem mk_err {OKC : Addr → Prop} {R : List V → Hp → IOut → Prop} {cls : Value} {xs : List (Str × V)} (hC : OKC C) (hR : ∀ ws G, RA G ws rs → R ws G (.inr (cls, xs))) (kk : ε cls xs M) : MkM C (spIni OKC R) rs M κ ε := fun B G H vs W σ o ra Q q x p dx hp hdx ne => by
  have hp1 : upd H dx (.own p) p = none := by rw [upd_ne (Ne.symm ne)]; exact hp
  have g1 := Gr.out (o := .own p) o.i hdx
  have g2 : Gr G (upd H dx (.own p)) G (upd (upd H dx (.own p)) p (.ins C dx [])) := Gr.out g1.i hp1
  have gp : G p = none := fresh_back o.i hp
  have o1 : Ok B G (upd (upd H dx (.own p)) p (.ins C dx [])) M := (o.gr g1).gr g2
  refine ⟨p, C, dx, vs, G, .inr (cls, xs), rfl, hC, upd_same, o1.i, gp, hR vs G ra, fun fs' e => (nomatch e), fun c y e d G2 H2 g hu xd => ?_⟩
  cases e
  have hg : Gr G H G2 H2 := ⟨g.g, fun a u z => g.h a u (by rw [upd_ne (ne_of_none z hp), upd_ne (ne_of_none z hdx)]; exact z) (ne_of_none z hp), g.i, fun a u z y => g.n a u (by rw [upd_ne (ne_of_none z hp), upd_ne (ne_of_none z hdx)]; exact z) y⟩
  exact x cls xs d G2 H2 M kk (o.gr hg) g.g xd
/-! ### super().__init__(..) on the instance that is made -/
theorem e_supI {OKC : Addr → Prop} {R : List V → Hp → IOut → Prop} {f2 : Addr} {ta : TA} (h0 : Γ[0]? = some (some (rV (.ref p)))) (hC : OKC C) (hm : PySem.W.mroIn K C (.ref D) = some true) (hs : PySem.W.ks_superIn K C D "__init__" = some (some (.ref f2)))
    (hk0 : M[0]? = some (insR own p C []))
    (h : EA W Γ M ta (fun rs M1 => M1[0]? = some (insR own p C []) ∧ ∃ o, (∀ ws G, RA G ws rs → R ws G o) ∧ (∀ fs, o = .inl fs → κ (rV .non) (M1.set 0 (insR own p C fs))) ∧ (∀ cls xs, o = .inr (cls, xs) → ε cls xs (M1.eraseIdx 0))) ε) : EW W Γ M (tSup K D "__init__" f2 (spIni OKC R) (WE W) ta) κ ε := fun B G H σ o en Q q x => by
  obtain ⟨u, hu1, hu2⟩ := en.get h0
  obtain rfl : u = V.ref p := hu2
  obtain ⟨dx0, ws0, hp0, fs0⟩ := o.m _ (List.mem_of_getElem? hk0)
  cases fs0
  refine ⟨p, C, dx0, [], hu1, hp0, hm, hs, h B G H σ o en _ (fun vs G1 H1 rs M1 z o1 e1 ra => ?_) x⟩
  obtain ⟨hk, oo, hR, k1, k2⟩ := z
  have hmm := List.mem_of_getElem? hk
  obtain ⟨dx, ws, hp, fs1⟩ := o1.m _ hmm
  cases fs1
  have gp : G1 p = none := o1.z p (mem_feet hmm (List.mem_singleton.mpr rfl))
  refine ⟨p, C, dx, vs, G1, oo, rfl, hC, hp, o1.i, gp, hR vs G1 ra, fun fs e G2 H2 g hi => ?_, fun cls xs e d G2 H2 g hu xd => ?_⟩
  · obtain ⟨dx', ws', h1, h2⟩ := hi
    have o2 := o1.chg (R' := insR own p C fs) hk rfl rfl g.g (fun a u z n => g.h a u z fun q => n (List.mem_singleton.mpr q)) g.i g.n ⟨dx', ws', h1, h2⟩
    exact q .non G2 H2 _ _ (k1 fs e) o2 (e1.trans g.g) rfl
  · refine x cls xs d G2 H2 _ (k2 cls xs e) ⟨o1.g.trans g.g, o1.l.trans g.g, fun a u z n => ?_, g.i, fun a u z y => ?_, fun a ha => ?_, fun r hr => ?_, fun a ha => ?_, feet_erase_nodup o1.d, fun r hr => o1.f r (mem_erase hr)⟩ (e1.trans g.g) xd
    · refine g.h a u (o1.h a u z n) fun q => ?_
      subst q
      rcases o1.f _ hmm a (List.mem_singleton.mpr rfl) with y | y
      · rw [y] at z; cases z
      · exact n y.2
    · by_cases c : a ∈ B.F
      · obtain ⟨u2, z2⟩ := o1.k a c
        exact g.n a u2 z2 (o1.n a u z y)
      · exact g.n a u (o1.h a u z c) (o1.n a u z y)
    · obtain ⟨u, z⟩ := o1.k a ha
      by_cases c : a = p
      · rw [c]; exact hu
      · exact ⟨u, g.h a u z c⟩
    · exact r.loc (fun a ha u z => g.h a u z (fun q => feet_apart o1.d hk hr a ha (List.mem_singleton.mpr q))) (r.mono g.g (o1.m r (mem_erase hr)))
    · obtain ⟨r, hr, hf⟩ := List.mem_flatMap.mp ha
      obtain ⟨u, z⟩ := r.at_ (o1.m r (mem_erase hr)) a hf
      exact g.n a u z (o1.z a (feet_erase_sub ha))
end

/-! ### facts of classes that inherit -/
theorem mkB_ok {K : PySem.W.Frag} {C f : Addr} (h : mkB K C f = true) : Mk K C f := by
  obtain ⟨h1, h⟩ := He.ba h
  obtain ⟨h2, h⟩ := He.ba h
  obtain ⟨h3, h4⟩ := He.ba h
  exact ⟨h1, He.eqO_ok h2, h3, h4⟩
theorem methB_ok {K : PySem.W.Frag} {C f : Addr} {m : Str} (h : methB K C m f = true) : Meth K C m f := by
  obtain ⟨h2, h⟩ := He.ba h
  obtain ⟨h3, h4⟩ := He.ba h
  exact ⟨He.eqO_ok h2, h3, h4⟩
structure SupF (K : PySem.W.Frag) (C D : Addr) (m : Str) (f : Addr) : Prop where
  mro : PySem.W.mroIn K C (.ref D) = some true
  sup : PySem.W.ks_superIn K C D m = some (some (.ref f))
theorem supFB_ok {K : PySem.W.Frag} {C D f : Addr} {m : Str} (h : supFB K C D m f = true) : SupF K C D m f := by
  obtain ⟨h1, h2⟩ := He.ba h
  exact ⟨of_decide_eq_true h1, He.eqO_ok h2⟩
theorem FunD.lk {K : PySem.W.Frag} {x qual : Str} {params : Arguments} {body : List Stmt} {scope : Scope} {dvs : List V} {kws : List (Str × V)} {f : Addr} {fd : FuncData} (F : FunD K x qual params body scope dvs kws f fd) : ∃ oc od osl, K.lookup f = some ⟨oc, od, .func fd, osl⟩ := by
  obtain ⟨oc, od, dV, kV, doc, pm, an, cdv, ct, osl, rfl, lk, hcd, _, _⟩ := F.ex
  exact ⟨oc, od, osl, lk⟩
theorem FunS.lk {K : PySem.W.Frag} {x qual : Str} {params : Arguments} {body : List Stmt} {scope : Scope} {file : Str} {D f : Addr} {fd : FuncData} {cda cc : Addr} (F : FunS K x qual params body scope file D f fd cda cc) : ∃ oc od osl, K.lookup f = some ⟨oc, od, .func fd, osl⟩ := by
  obtain ⟨oc, od, kV, doc, pm, an, ct, osl, e, lk⟩ := F.fn
  exact ⟨oc, od, osl, lk⟩
theorem fn_ty {K : PySem.W.Frag} {f : Addr} (h : PySem.W.isFn K (.ref f) = true) : PySem.W.typeIn K (.ref f) = some (.type "function") := beq_iff_eq.mp h
/-! ### lists of ints of any sign -/
def rLi (K : PySem.W.Frag) (l : List Int) : Rp := rL K (l.map rI)
def rLLi (K : PySem.W.Frag) (l : List (List Int)) : Rp := rL K (l.map (rLi K))
def badW (n : Nat) (w : Int) : Bool := decide (w < 0) || decide ((n : Int) ≤ w)
section
variable {Γ : Ctx} {M : List Re} {te ta tb : TE} {K : PySem.W.Frag} {κ : KV} {n : Nat}
theorem x_lenLi {l : List Int} (h : EvX Γ te (rLi K l)) : EvX Γ (tCB (rLenS K) (tCons te tNil)) (nI l.length) := x_lenLm h
theorem x_lenLLi {l : List (List Int)} (h : EvX Γ te (rLLi K l)) : EvX Γ (tCB (rLenS K) (tCons te tNil)) (nI l.length) := x_lenLm h
theorem asd_li (l : List Int) : AsD K (rLi K l) (.list (l.map .int)) := asd_list asd_int l
theorem x_tupLi {l : List Int} (h : EvX Γ te (rLi K l)) : EvX Γ (tCB (rTupO K) (tCons te tNil)) (rT K (l.map rI)) := x_tupL h
end
/-! ### raise C(..), by what follows -/
theorem a_x {W : WX} {Γ : Ctx} {M : List Re} {ta : TA} {rs : List Rp} {κ : List Rp → List Re → Prop} {ε : KX} (h : EvAX Γ ta rs) (k : κ rs M) : EA W Γ M ta κ ε := fun B G H σ o en Q q _ => h σ G en H o.i _ fun vs G2 H2 g ra => q vs G2 H2 rs M k (o.gr g) g.g ra
theorem EvAX.by {Γ : Ctx} {ta : TA} {rs : List Rp} (h : ∀ W ε, EA W Γ [] ta (fun r' M' => r' = rs ∧ M' = []) ε) : EvAX Γ ta rs := fun σ G en H e Q q => h (fun _ _ _ _ => True) (fun _ _ _ => False) ⟨G, H, [], G⟩ G H σ (Ok.nil e) en Q (fun v G' H' r' M' z o _ hv => by
    obtain ⟨rfl, rfl⟩ := z
    exact q v G' H' o.to hv) (fun _ _ _ _ _ _ z => z.elim)
theorem ws_raise1 {W : WX} {Γ : Ctx} {M : List Re} {κ : Kn} {C : Addr} {f : Str} {x : V} {te : TE} (h : EvX Γ te (rV x)) (hx : κ.ex Γ (.ref C) [(f, x)] M) : WP W Γ M (fun _ σ H => tMkO C (spErr C [f]) [] (tCons te tNil) σ H fun cls d H' => W cls d σ H') κ := w_raise (xs := [x]) (xa_cons h xa_nil) rfl (by show 1 ≤ 1000; decide) hx
theorem ws_raise2 {W : WX} {Γ : Ctx} {M : List Re} {κ : Kn} {C : Addr} {f g : Str} {x y : V} {te tf : TE} (h : EvX Γ te (rV x)) (h2 : EvX Γ tf (rV y)) (hx : κ.ex Γ (.ref C) [(g, y), (f, x)] M) : WP W Γ M (fun _ σ H => tMkO C (spErr C [f, g]) [] (tCons te (tCons tf tNil)) σ H fun cls d H' => W cls d σ H') κ := w_raise (xs := [x, y]) (xa_cons h (xa_cons h2 xa_nil)) rfl (by show 2 ≤ 1000; decide) hx
section
variable {Γ : Ctx} {ta tb : TE} {m n : Nat}
theorem dec_iff {p q : Prop} [Decidable p] [Decidable q] (h : p ↔ q) : decide p = decide q := by
  rw [Bool.eq_iff_iff, decide_eq_true_iff, decide_eq_true_iff]; exact h
theorem x_ltN (ha : EvX Γ ta (nI m)) (hb : EvX Γ tb (nI n)) : EvX Γ (tOp (rI0 fun i j => .bl (decide (i < j))) ta tb) (rB (decide (m < n))) := x_is (x_I0 ha hb) (congrArg rB (dec_iff (by omega)))
theorem x_leN (ha : EvX Γ ta (nI m)) (hb : EvX Γ tb (nI n)) : EvX Γ (tOp (rI0 fun i j => .bl (decide (i ≤ j))) ta tb) (rB (decide (m ≤ n))) := x_is (x_I0 ha hb) (congrArg rB (dec_iff (by omega)))
theorem x_gtN (ha : EvX Γ ta (nI m)) (hb : EvX Γ tb (nI n)) : EvX Γ (tOp (rI0 fun i j => .bl (decide (j < i))) ta tb) (rB (decide (n < m))) := x_is (x_I0 ha hb) (congrArg rB (dec_iff (by omega)))
theorem x_geN (ha : EvX Γ ta (nI m)) (hb : EvX Γ tb (nI n)) : EvX Γ (tOp (rI0 fun i j => .bl (decide (j ≤ i))) ta tb) (rB (decide (n ≤ m))) := x_is (x_I0 ha hb) (congrArg rB (dec_iff (by omega)))
end
end Mu

namespace Mu
open PySem PySem.Spec PyProof.Rows L2 Evl
section
variable {α : Type} {W : WX} {Γ : Ctx} {M : List Re} {te ta tb tl : TE} {K : PySem.W.Frag} {i j k n : Nat} {p : Addr} {κ : KV} {ε : KX} {vs : List Nat} {D : α → Prop} {f : α → Rp} {rs : List Rp} {r : Rp}
theorem EX.ofW (h : ∀ W, EW W Γ M te κ (fun _ _ _ => False)) : EX Γ M te κ := fun B G H σ o en Q q => h (fun _ _ _ _ => False) B G H σ o en Q q (fun _ _ _ _ _ _ z => z.elim)
theorem e_ofX (h : EX Γ M te κ) : EW W Γ M te κ ε := fun B G H σ o en Q q _ => h B G H σ o en Q q
theorem EW.imp {κ' : KV} (h : EW W Γ M te κ' ε) (hi : ∀ r M', κ' r M' → κ r M') : EW W Γ M te κ ε := fun B G H σ o en Q q x => h B G H σ o en Q (fun v G' H' r M' z => q v G' H' r M' (hi r M' z)) x
/-- a comprehension with draws, over range(n): the list stays our own | stays as it is -/
theorem e_lcDo (D : α → Prop) (f : α → Rp) (h : EvX Γ ta (nI n)) (hz : n ≤ 40000) (he : ∀ i R W, i < n → EW W ((wipeC Γ vs).set j (some (nI i))) (M ++ [R]) te (fun r M' => (∃ a, D a ∧ r = f a) ∧ M' = M ++ [R]) (fun _ _ _ => False)) (hj : j ∈ vs) (kk : ∀ l : List α, l.length = n → (∀ a ∈ l, D a) → ∀ p, κ (rV (.ref p)) (M ++ [lstR p (l.map f)])) : EW W Γ M (tLc (iRng1 (tCons ta tNil)) (gName j) tYes te vs) κ ε :=
  EW.imp (e_ofX (l_lcR (D := D) (f := f) n h hz (fun i R hi => EX.ofW fun W => he i R W hi) hj)) fun r M' z => by
    obtain ⟨l, p, ⟨h1, h2⟩, rfl, rfl⟩ := z
    exact kk l h1 h2 p
theorem e_lcDf (D : α → Prop) (f : α → Rp) (K : PySem.W.Frag) (h : EvX Γ ta (nI n)) (hz : n ≤ 40000) (he : ∀ i R W, i < n → EW W ((wipeC Γ vs).set j (some (nI i))) (M ++ [R]) te (fun r M' => (∃ a, D a ∧ r = f a) ∧ M' = M ++ [R]) (fun _ _ _ => False)) (hj : j ∈ vs) (kk : ∀ l : List α, l.length = n → (∀ a ∈ l, D a) → κ (rL K (l.map f)) M) : EW W Γ M (tLc (iRng1 (tCons ta tNil)) (gName j) tYes te vs) κ ε := fun B G H σ o en Q q x =>
  e_lcDo (W := W) (ε := ε) (κ := fun r M' => ∃ p ss M, r = rV (.ref p) ∧ M' = M ++ [lstR p ss] ∧ κ (rL K ss) M) D f h hz he hj (fun l h1 h2 p => ⟨p, _, M, rfl, rfl, kk l h1 h2⟩) B G H σ o en Q q.frz x
/-- xs[j] = e, xs our own -/
theorem ws_setI {κ : Kn} {n : Nat} {tn : TE} (k : Nat) (hi : Γ[i]? = some (some (rV (.ref p)))) (hn : EvX Γ tn (nI n)) (h : EW W Γ M te (fun r M' => ∃ rs, M'[k]? = some (lstR p rs) ∧ n < rs.length ∧ κ.nx Γ (M'.set k (lstR p (rs.set n r)))) (κ.ex Γ)) : WP W Γ M (tAsg te (gSub (tVar i) tn rSetL)) κ := fun B G H σ D o en d =>
  h B G H σ o en _ (fun v G' H' r M' z o' e' hv => by
    obtain ⟨rs, hk, hl, hq⟩ := z
    obtain ⟨u, hu1, hu2⟩ := en.get hi
    obtain rfl : u = V.ref p := hu2
    refine ⟨.ref p, hu1, hn σ G' (en.mono e') H' o'.i _ fun w G2 H2 g hw => ?_⟩
    obtain rfl : w = V.int (n : Int) := hw
    have o2 := o'.gr g
    have hm := List.mem_of_getElem? hk
    obtain ⟨ws, h1, h2⟩ := o2.m _ hm
    have gp : G2 p = none := o2.z p (mem_feet hm (List.mem_singleton.mpr rfl))
    have hlt : n < ws.length := by rw [h2.len]; exact hl
    refine ⟨p, ws, (n : Int), n, rfl, rfl, h1, ?_, d.nx σ G2 _ Γ _ (o2.chg (R' := lstR p (rs.set n r)) hk rfl rfl (Ex.refl _) (fun a u z nn => ?_) (Ex.mut o2.i gp) (fun _ _ _ y => y) ⟨_, upd_same, h2.set (r.mono g.g hv) n⟩) ((en.mono e').mono g.g) hq⟩
    · unfold ixN
      rw [if_pos (by omega)]
      simp [hlt]
    · rw [upd_ne fun q => nn (List.mem_singleton.mpr q)]
      exact z) (fun cls fs dd G' H' M' k o' e' xd => d.ex σ G' H' Γ M' cls dd fs o' (en.mono e') xd k)
end
theorem x_powN {Γ : Ctx} {ta tb : TE} {a b : Nat} (ha : EvX Γ ta (nI a)) (hb : EvX Γ tb (nI b)) (h1 : b ≤ 1000000) (h2 : a < 2 ^ 64) : EvX Γ (tOp (L2.rI CPow fun i j => .int (i ^ j.toNat)) ta tb) (nI (a ^ b)) := x_is (x_I ha hb ⟨by omega, by omega, by rw [Int.natAbs_natCast]; exact h2⟩) (by show rI _ = rI _; congr 1; first | done | (rw [Int.toNat_natCast]; exact (Int.natCast_pow a b).symm))
section
variable {W : WX} {Γ : Ctx} {M : List Re} {te ta tb : TE} {K : PySem.W.Frag} {κ : KV} {ε : KX} {rs ss : List Rp} {i : Int} {m n : Nat}
theorem om_cat (hz : rs.length + ss.length ≤ 100000) (k : κ (rL K (rs ++ ss)) M) : OM rCat (rL K rs) (rL K ss) M κ := omn (K := K) (xn_cat (K := K) (x_v rfl) (x_v rfl) hz) k
theorem RA.rep {G : Hp} {vs : List V} {rs : List Rp} (h : RA G vs rs) : ∀ m, RA G (List.replicate m vs).flatten (List.replicate m rs).flatten
  | 0 => .nil
  | m + 1 => by
    rw [List.replicate_succ, List.replicate_succ, List.flatten_cons, List.flatten_cons]
    exact h.append (RA.rep h m)
theorem om_rep (hz : rs.length * m ≤ 100000) (hm : m ≤ 100000) (k : κ (rL K (List.replicate m rs).flatten) M) : OM rRep (rL K rs) (nI m) M κ := fun B G H x y o hx hy Q q => by
  obtain ⟨a, vs, rfl, h1, h2⟩ := hx
  obtain rfl : y = V.int (m : Int) := hy
  refine ⟨a, (m : Int), vs, rfl, rfl, o.i _ _ h1, by omega, by omega, sz_of (by rw [Int.toNat_natCast, h2.len]; exact hz), fun p hp => ?_⟩
  rw [Int.toNat_natCast]
  have g := Gr.new (o := .lst (List.replicate m vs).flatten) o.i hp
  exact q (.ref p) _ _ _ M k (o.gr g) g.g ⟨p, _, rfl, upd_same, (RA.rep h2 m).mono g.g⟩
theorem ev_part {Γ : Ctx} {te : TE} (h : EvX Γ te (rI i)) {σ : L2.St} {G : Hp} (en : En σ G Γ) : EvO (tPart te) σ G (some i) := fun H e Q q => h σ G en H e _ fun v G2 H2 g hv => by
  obtain rfl : v = V.int i := hv
  exact ⟨_, rfl, q H2 g.h⟩
theorem e_sl {tl th : TO} {lo hi : Option Int} (hl : ∀ σ G, En σ G Γ → EvO tl σ G lo) (hh : ∀ σ G, En σ G Γ → EvO th σ G hi) (h : EW W Γ M te (fun r M1 => ∃ rs, r = rL K rs ∧ κ (rL K (cutR rs lo hi)) M1) ε) : EW W Γ M (tSl (rSlL K) te tl th) κ ε := fun B G H σ o en Q q x =>
  h B G H σ o en _ (fun v G1 H1 r M1 z o1 e1 hv => by
    obtain ⟨rs, rfl, kk⟩ := z
    have z2 := en_slL (σ := σ) (G := G1) (te := tC v) (tl := tl) (th := th) (K := K) (rs := rs) (lo := lo) (hi := hi) (fun H e Q q => q v G1 H (Gr.refl e) (by
      obtain ⟨a, vs, rfl, h1, h2⟩ := hv
      exact ⟨a, vs, rfl, sq_of h1, h2⟩)) (fun G' e => hl σ G' (en.mono (e1.trans e))) (fun G' e => hh σ G' (en.mono (e1.trans e)))
    exact (EvN.d (K := K) z2) H1 o1.i Q fun w G2 H2 g hw => q w G2 H2 _ M1 kk (o1.gr g) (e1.trans g.g) hw) x
theorem e_slTo (hb : EvX Γ tb (rI i)) (h : EW W Γ M te (fun r M1 => ∃ rs, r = rL K rs ∧ κ (rL K (cutR rs none (some i))) M1) ε) : EW W Γ M (tSl (rSlL K) te tNoPart (tPart tb)) κ ε := e_sl (fun _ _ _ => o_no) (fun _ _ en => ev_part hb en) h
theorem e_slFrom (hb : EvX Γ tb (rI i)) (h : EW W Γ M te (fun r M1 => ∃ rs, r = rL K rs ∧ κ (rL K (cutR rs (some i) none)) M1) ε) : EW W Γ M (tSl (rSlL K) te (tPart tb) tNoPart) κ ε := e_sl (fun _ _ en => ev_part hb en) (fun _ _ _ => o_no) h
theorem cut_to {α : Type} {l : List α} (h : n ≤ l.length) : cutR l none (some (n : Int)) = l.take n := by
  unfold cutR
  rw [HT.sIx_none, HT.sIx_nat, Nat.min_eq_left h, List.drop_zero, Nat.sub_zero]
theorem cut_from {α : Type} {l : List α} (h : n ≤ l.length) : cutR l (some (n : Int)) none = l.drop n := by
  unfold cutR
  rw [HT.sIx_none, HT.sIx_nat, Nat.min_eq_left h]
  apply List.take_of_length_le
  rw [List.length_drop]
  exact Nat.le_refl _
theorem cut_neg {α : Type} {l : List α} (h : 1 ≤ l.length) : cutR l none (some (-((1 : Nat) : Int))) = l.take (l.length - 1) := by
  unfold cutR
  have e : HT.sIx l.length l.length (some (-((1 : Nat) : Int))) = l.length - 1 := by
    unfold HT.sIx
    dsimp only
    rw [if_pos (show (-((1 : Nat) : Int)) < 0 by decide)]
    omega
  rw [HT.sIx_none, e, List.drop_zero, Nat.sub_zero]
end
theorem nat_ints (h : List Nat) : h.map nI = (h.map fun (w : Nat) => (w : Int)).map rI := by rw [List.map_map]; rfl
theorem ln_li (K : PySem.W.Frag) (l : List Nat) : rLn K l = rLi K (l.map fun (w : Nat) => (w : Int)) := by
  unfold rLn rLi
  rw [nat_ints]
theorem lls_lli (K : PySem.W.Frag) (s : List (List Nat)) : s.map (rLn K) = (s.map fun l => l.map fun (w : Nat) => (w : Int)).map (rLi K) := by
  rw [List.map_map]
  refine List.map_congr_left fun l _ => ln_li K l
/-- a statement alone or the first of several: nothing to do -/
theorem w_seqI {W : WX} {Γ : Ctx} {M : List Re} {t1 t2 : TS} {κ : Kn} (h : WP W Γ M (tSeq t1 t2) κ) : WP W Γ M (tSeq t1 t2) κ := h
theorem cut_len {α : Type} (l : List α) (lo hi : Option Int) : (cutR l lo hi).length ≤ l.length := by
  unfold cutR
  rw [List.length_take, List.length_drop]
  omega
end Mu

namespace Mu
open PySem PySem.Spec PyProof.Rows L2 He Evl
/-! ### defs that stand elsewhere (a property's getter, a class method's function) -/
theorem DefA.funD {K : PySem.W.Frag} {d : DefA} (e : fnA K (d.at_ K) = d.val) (c : d.ok K = true) : ∃ fd, FunD K d.name d.qual d.params d.body d.scope [] [] (d.at_ K) fd := by
  obtain ⟨kp, c2⟩ := ba c
  unfold fnA at e
  cases q : K.lookup (d.at_ K) with
  | none =>
    rw [q] at c2
    cases c2
  | some o =>
    obtain ⟨oc, od, dt, osl⟩ := o
    rw [q] at c2 e
    cases dt with
    | func fd =>
      obtain ⟨n1, n2, n3, n4, n5, n6, n7, n8, n9, n10, n11, n12, n13, n14, n15⟩ := fd
      have e2 : (some (n1, n2, n3, n4, n5, n6, n7, n15) : FnW) = some (d.name, d.qual, d.params, .stmts d.body, d.scope, mainGlobals, [], builtinsNs) := e
      simp only [Option.some.injEq, Prod.mk.injEq] at e2
      obtain ⟨h1, h2, h3, h4, h5, h6, h7, h8⟩ := e2
      subst h1 h2 h3 h4 h5 h6 h7 h8
      have c3 : (PySem.W.codeIn K n13 d.qual && (dflB K n8 [] && kwdB K n9 [])) = true := c2
      obtain ⟨k1, k2⟩ := ba c3
      obtain ⟨k3, k4⟩ := ba k2
      exact ⟨_, ⟨oc, od, n8, n9, n10, n11, n12, n13, n14, osl, rfl, q, k1, dflB_ok k3, kwdB_ok k4⟩, kp⟩
    | _ => cases c2
section
variable {fa : List Fa} {ex : List FactB} {fn : List DefD} {sn : List DefS} {an : List DefA} {K : PySem.W.Frag}
theorem SaysP.s (c : SaysP fa ex fn sn an K) : SaysS fa ex fn sn K := by
  have h1 : (((((fa.all fun f => f.ok K) && ex.all fun f => f K) && fn.all fun d => d.ok K) && sn.all fun d => d.ok K) && an.all fun d => d.ok K) = true := congrArg (fun z : AlP => z.1) c
  have h2 : fn.map (fun d => fnW K d.at_) = fn.map DefD.val := congrArg (fun z : AlP => z.2.1) c
  have h3 : sn.map (fun d => fnS K d.at_) = sn.map DefS.val := congrArg (fun z : AlP => z.2.2.1) c
  show obsS fa ex fn sn K = valS fn sn
  unfold obsS valS
  rw [(ba h1).1, h2, h3]
theorem SaysP.fact (c : SaysP fa ex fn sn an K) (i : Nat) {f : Fa} (h : fa[i]? = some f := by rfl) : f.ok K = true := c.s.fact i h
theorem SaysP.exf (c : SaysP fa ex fn sn an K) (i : Nat) {f : FactB} (h : ex[i]? = some f := by rfl) : f K = true := c.s.exf i h
theorem SaysP.def_ (c : SaysP fa ex fn sn an K) (i : Nat) {d : DefD} (h : fn[i]? = some d := by rfl) : ∃ fd, FunD K d.name d.qual d.params d.body d.scope (d.dvs K) (d.kws K) (fAd K d.at_) fd := c.s.def_ i h
theorem SaysP.sup_ (c : SaysP fa ex fn sn an K) (i : Nat) {d : DefS} (h : sn[i]? = some d := by rfl) : ∃ fd cda cc, FunS K d.name d.qual d.params d.body d.scope d.file (ga K d.cls) (fAd K d.at_) fd cda cc := c.s.sup_ i h
theorem SaysP.any_ (c : SaysP fa ex fn sn an K) (i : Nat) {d : DefA} (h : an[i]? = some d := by rfl) : ∃ fd, FunD K d.name d.qual d.params d.body d.scope [] [] (d.at_ K) fd := by
  have h1 : (((((fa.all fun f => f.ok K) && ex.all fun f => f K) && fn.all fun d => d.ok K) && sn.all fun d => d.ok K) && an.all fun d => d.ok K) = true := congrArg (fun z : AlP => z.1) c
  have e : an.map (fun d => fnA K (d.at_ K)) = an.map DefA.val := congrArg (fun z : AlP => z.2.2.2) c
  have e2 : (an.map fun d => fnA K (d.at_ K))[i]? = (an.map DefA.val)[i]? := by rw [e]
  rw [List.getElem?_map, List.getElem?_map, h] at e2
  exact DefA.funD (Option.some.inj e2) (List.all_eq_true.mp (ba h1).2 d (List.mem_of_getElem? h))
end
/-! a property -/
def PropG (K : PySem.W.Frag) (C : Addr) (f : Str) (g : Addr) : Prop := ∃ p, PropOf K C f p g
theorem propB_ok {K : PySem.W.Frag} {C g : Addr} {f : Str} (h : propB K C f g = true) : PropG K C f g := by
  unfold propB at h
  split at h
  · rename_i p e
    obtain ⟨h1, h2⟩ := ba h
    obtain ⟨h3, h4⟩ := ba h2
    split at h4
    · rename_i g' rest e2
      have z : g' = g := by simpa using h4
      subst z
      exact ⟨p, e, eqO_ok h1, of_decide_eq_true h3, rest, e2⟩
    · cases h4
  · cases h
theorem pe_propG {X : Cx} {CX : CXT} {k : Nat} {C g : Addr} {f : Str} {fd : FuncData} {ps : List Str} {sp : Sp} {E : XK} {e : Expr} {pos : Pos} {ta : TE} (he : PE X e ta) (c : Cls X.K C) (hp : PropG X.K C f g) (F : FnOk X.prog X.w X.K X.mg X.base CX k g fd ps sp) (hr : Room (k + 1) X.A) (hb : Binds X.K fd ps []) (hx : Passes CX X.nox E)
    (hab : attributeBase e f X.env (eval e X.env) = eval e X.env := by rfl) : PE X (.Attribute e f pos) (tProp C sp [] E ta) := by
  obtain ⟨p, hp⟩ := hp
  exact pe_prop he c hp F hr hb .nil hx hab
theorem e_prop {W : WX} {Γ : Ctx} {M : List Re} {te : TE} {C : Addr} {sp : Sp} {E : XK} {κ : KV} {ε : KX} (h : EW W Γ M te (fun r0 M0 => (∀ v G, r0.p v G → ∃ a dx fs, v = .ref a ∧ G a = some (.ins C dx fs)) ∧ CM sp [r0] M0 κ) ε) : EW W Γ M (tProp C sp [] E te) κ ε := fun B G H σ o en Q q x =>
  h B G H σ o en _ (fun v0 G0 H0 r0 M0 h0 o0 e0 hv0 => by
    obtain ⟨hi, h1⟩ := h0
    obtain ⟨a, dx, fs, rfl, h2⟩ := hi _ _ hv0
    exact ⟨a, dx, fs, rfl, o0.i _ _ h2, h1 E B G0 H0 [.ref a] o0 (.cons hv0 .nil) Q (q.up e0)⟩) x
theorem ins_is {C : Addr} {fs : FL} : ∀ v G, (rIns C fs).p v G → ∃ a dx ws, v = .ref a ∧ G a = some (.ins C dx ws) := fun v G h => by
  obtain ⟨a, dx, ws, rfl, h2, _⟩ := h
  exact ⟨a, dx, ws, rfl, h2⟩
/-! o.m(..) that may raise, within a try -/
section
variable {X : Cx} {CX : CXT} {k : Nat} {f C : Addr} {fd : FuncData} {ps : List Str} {sp : Sp} {m : Str} {pos apos : Pos} {e o : Expr} {es : List Expr} {t : TA} {ta : TE}
def tMethS (C : Addr) (m : Str) (sp : Sp) (E : L2.St → XK) (ta : TE) (t : TA) : TE := fun σ H Q => ta σ H fun x H1 => ∃ a dx fs, x = .ref a ∧ H1 a = some (.ins C dx fs) ∧ fs.lookup m = none ∧ t σ H1 fun vs H2 => sp (x :: vs) H2 Q (E σ)
theorem pe_methS {pl : Sem Bool} {E : L2.St → XK} (he : PE X o ta) (c : Cls X.K C) (hm : Meth X.K C m f) (F : FnOk X.prog X.w X.K X.mg X.base CX k f fd ps sp) (hr : Room k X.A) (hb : Binds X.K fd ps []) (hx : ∀ σ, PassesAt CX X σ (E σ)) (ha : PA X (e :: es) t)
    (hst : starEach (e :: es) X.env = (false, eval e X.env) :: starEach es X.env := by rfl) (hpl : (backTo pos (starEach es X.env)).any (·.1) = false := by rfl)
    (ht : eval (.Call (.Attribute o m apos) (e :: es) [] pos) X.env = (do
      let ov ← eval o X.env
      standAt apos.atName
      let (f, first) ← holding [ov] (getMethod ov m pl)
      callWith pos f first (backTo pos (starEach (e :: es) X.env)) (backToKw pos (keywordEach [] X.env))) := by rfl) :
    PE X (.Call (.Attribute o m apos) (e :: es) [] pos) (tMethS C m sp E ta t) := by
  refine ⟨fun pins s σ H Q I h => ?_⟩
  refine PySem.W.methodCall_KW (pl := pl) (thn (he.run pins s σ H _ I h) fun u s1 ⟨x, H1, I1, rx, a, dx, fs, ex, ea, l, q⟩ => ?_) ht
  subst ex
  obtain rfl : u = Value.ref a := rx
  refine getmeth_ok I1 ea c hm l ?_
  refine PySem.W.callWith_K (first := [.ref a]) (h₀ := X.base) I.ok.mod.kin hm.kp (thn (ha.run pos pins s1 σ H1 _ I1 q) fun us s2 ⟨vs, H2, I2, r, q2⟩ => ⟨I2.kIn, ?_⟩) hst hpl
  exact run_fnS (us := .ref a :: us) (vs := .ref a :: vs) F hr hb (hx σ) I2 (.cons rfl r) q2
end
theorem e_methS {W : WX} {Γ : Ctx} {M : List Re} {te : TE} {ta : TA} {f : Str} {C : Addr} {sp : Sp} {κ : KV} {ε : KX} (h : EW W Γ M te (fun r0 M0 => InsR C f r0 ∧ EA W Γ M0 ta (fun rs M1 => XM sp (r0 :: rs) M1 κ ε) ε) ε) : EW W Γ M (tMethS C f sp (WE W) te ta) κ ε := fun B G H σ o en Q q x =>
  h B G H σ o en _ (fun v0 G0 H0 r0 M0 h0 o0 e0 hv0 => by
    obtain ⟨hi, h1⟩ := h0
    obtain ⟨a, dx, fs, rfl, h2, h3⟩ := hi _ _ hv0
    exact ⟨a, dx, fs, rfl, o0.i _ _ h2, h3, h1 B G0 H0 σ o0 (en.mono e0) _ (fun vs G1 H1 rs M1 k1 o1 e1 ra => k1 B G1 H1 _ W σ o1 (.cons (r0.mono e1 hv0) ra) Q (q.up (e0.trans e1)) (x.up (e0.trans e1))) (x.up e0)⟩) x
/-! a tuple of ints -/
theorem x_inTi {Γ : Ctx} {ta tb : TE} {K : PySem.W.Frag} {a : Int} {l : List Int} (neg : Bool) (ha : EvX Γ ta (rI a)) (hb : EvX Γ tb (rT K (l.map rI))) : EvX Γ (tOp (rIn K neg) ta tb) (rB (if neg then !decide (a ∈ l) else decide (a ∈ l))) := fun σ G en =>
  Ev.d (ev_op2 (ha σ G en) (hb σ G en) fun x y H hx hy Q q => by
    obtain rfl : x = V.int a := hx
    obtain ⟨p, vs, rfl, h1, h2⟩ := hy
    have e := ra_ints_eq h2
    subst e
    exact ⟨p, _, rfl, .inr h1, rfl, ints_flatI l, by rw [inV_int]; exact q⟩)
/-! ### a new list, or an error -/
abbrev NOut := List Rp ⊕ (Value × List (Str × V))
def spON (R : List V → Hp → NOut → Prop) : Sp := fun vs H Q E => ∃ G o, Ex G H ∧ R vs G o ∧ (∀ rs, o = .inl rs → ∀ p ws G2 H2, Gr G H G2 H2 → H p = none → G2 p = none → H2 p = some (.lst ws) → RA G2 ws rs → Q (.ref p) H2) ∧ (∀ cls fs, o = .inr (cls, fs) → ∀ d G2 H2, Gr G H G2 H2 → XdOk G2 fs d → E cls d H2)
section
variable {W : WX} {Γ : Ctx} {M : List Re} {rs ss : List Rp} {K : PySem.W.Frag} {κ : KV} {ε : KX} {R : List V → Hp → NOut → Prop} {o : NOut}
theorem run_ON {t : TS} {G H : Hp} {σ : L2.St} {Q : VK} {E : XK} (w : WP (fun cls d _ H => E cls d H) Γ [] t { nx := fun _ _ => False, rt := fun r' M' => ∃ rs p, o = .inl rs ∧ r' = rV (.ref p) ∧ M' = [lstR p rs], ex := fun _ cls fs _ => o = .inr (cls, fs) }) (e : Ex G H) (en : En σ G Γ) (k1 : ∀ rs, o = .inl rs → ∀ p ws G2 H2, Gr G H G2 H2 → H p = none → G2 p = none → H2 p = some (.lst ws) → RA G2 ws rs → Q (.ref p) H2) (k2 : ∀ cls fs, o = .inr (cls, fs) → ∀ d G2 H2, Gr G H G2 H2 → XdOk G2 fs d → E cls d H2) : t { nx := fun _ H' => Q .non H', rt := Q } σ H :=
  w _ G H σ _ (Ok.nil e) en ⟨fun _ _ _ _ _ _ _ z => z.elim, fun v G' H' r' M' o' hv z => by
    obtain ⟨rs, p, h1, rfl, rfl⟩ := z
    obtain rfl : v = V.ref p := hv
    obtain ⟨ws, h3, h4⟩ := o'.m (lstR p rs) List.mem_cons_self
    have hp : H p = none := by
      rcases o'.f (lstR p rs) List.mem_cons_self p (List.mem_singleton.mpr rfl) with q | q
      · exact q
      · exact nomatch q.2
    exact k1 rs h1 p ws G' H' o'.to hp (o'.z p (List.mem_cons_self)) h3 h4, fun _ _ _ _ _ _ _ z => z.elim, fun _ _ _ _ _ _ _ z => z.elim, fun σ' G' H' Γ' M' cls d fs o' en' xd z => k2 cls fs z d G' H' o'.to xd⟩
theorem xmo (h : ∀ vs G, RA G vs rs → R vs G (.inl ss)) (k : ∀ p, κ (rV (.ref p)) (M ++ [lstR p ss])) : XM (spON R) rs M κ ε := fun B G H vs W σ o ra Q q x => by
  refine ⟨G, .inl ss, o.i, h vs G ra, fun rs' e' p ws G2 H2 g hp gp h2 ra2 => ?_, fun _ _ z => nomatch z⟩
  cases e'
  exact q _ G2 H2 _ _ (k p) (o.add (R := lstR p ss) g (show [p].Nodup by simp) (fun a ha => by rw [List.mem_singleton.mp ha]; exact ⟨hp, gp⟩) ⟨ws, h2, ra2⟩) g.g rfl
theorem xmf (K : PySem.W.Frag) (h : ∀ vs G, RA G vs rs → R vs G (.inl ss)) (k : κ (rL K ss) M) : XM (spON R) rs M κ ε := fun B G H vs W σ o ra Q q x =>
  xmo (κ := fun r M' => ∃ p ss M, r = rV (.ref p) ∧ M' = M ++ [lstR p ss] ∧ κ (rL K ss) M) (ε := ε) h (fun p => ⟨p, ss, M, rfl, rfl, k⟩) B G H vs W σ o ra Q q.frz x
theorem xme {cls : Value} {fs : List (Str × V)} (h : ∀ vs G, RA G vs rs → R vs G (.inr (cls, fs))) (k : ε cls fs M) : XM (spON R) rs M κ ε := fun B G H vs W σ o ra Q q x => by
  refine ⟨G, .inr (cls, fs), o.i, h vs G ra, fun _ z => (nomatch z), fun c f e' d G2 H2 g xd => ?_⟩
  cases e'
  exact x cls fs d G2 H2 M k (o.gr g) g.g xd
theorem cmo_ {sp : Sp} (h : XM sp rs M κ (fun _ _ _ => False)) (hE : ∀ vs H Q E', sp vs H Q E' → ∀ E2 : XK, (∀ c d H', E' c d H' → E2 c d H') → sp vs H Q E2) : CM sp rs M κ := fun E B G H vs o ra Q q => hE _ _ _ _ (h B G H vs (fun _ _ _ _ => False) [] o ra Q q (fun _ _ _ _ _ _ z => z.elim)) E (fun _ _ _ z => z.elim)
theorem spON_E : ∀ vs H Q E', spON R vs H Q E' → ∀ E2 : XK, (∀ c d H', E' c d H' → E2 c d H') → spON R vs H Q E2 := fun vs H Q E' h E2 hi => by
  obtain ⟨G, o, h1, h2, h3, h4⟩ := h
  exact ⟨G, o, h1, h2, h3, fun cls xs e d G2 H2 g x => hi _ _ _ (h4 cls xs e d G2 H2 g x)⟩
end
end Mu

namespace Mu
open PySem PySem.Spec PyProof.Rows L2 He Evl
/-! ### a narrow look: only what the named globals and methods reach -/
end Mu

namespace Mu
open PySem PySem.Spec PyProof.Rows L2 Evl
/-! ### our own lists lent for one reading, and taken back -/
def bor (G H : Hp) (M : List Re) : Hp := fun a => match G a with
  | some o => some o
  | none => if a ∈ feet M then (match H a with
    | some (.lst ws) => some (.lst ws)
    | _ => none) else none
/-- without lists -/
def nl (G : Hp) : Hp := fun a => match G a with
  | some (.lst _) => none
  | o => o
def LF (r : Rp) : Prop := ∀ v G, r.p v G → r.p v (nl G)
section
variable {B : Ba} {G H G2 H2 : Hp} {M : List Re} {W : WX} {Γ Γ' Γ1 : Ctx} {te ta tb tl : TE} {t : TT} {K : PySem.W.Frag} {κ : KV} {ε : KX} {r r0 : Rp} {rs rs0 : List Rp} {i j k n : Nat} {p C : Addr} {fs : FL} {vs : List Nat}
theorem bor_g : Ex G (bor G H M) := fun a o z => by
  unfold bor
  rw [z]
theorem bor_i (e : Ex G H) : Ex (bor G H M) H := fun a o z => by
  unfold bor at z
  cases q : G a with
  | some u =>
    rw [q] at z
    cases z
    exact e _ _ q
  | none =>
    rw [q] at z
    by_cases c : a ∈ feet M
    · rw [if_pos c] at z
      cases y : H a with
      | none => rw [y] at z; cases z
      | some u =>
        rw [y] at z
        cases u <;> first | (cases z; done) | (simp at z; rw [← z])
    · rw [if_neg c] at z
      cases z
theorem bor_no {a : Addr} (hg : G a = none) (hf : a ∉ feet M) : bor G H M a = none := by
  unfold bor
  rw [hg, if_neg hf]
theorem bor_l {a : Addr} {ws : List V} (hg : G a = none) (hf : a ∈ feet M) (h : H a = some (.lst ws)) : bor G H M a = some (.lst ws) := by
  unfold bor
  rw [hg, if_pos hf, h]
theorem bor_nl {a : Addr} (hg : G a = none) (h : ∀ ws, H a ≠ some (.lst ws)) : bor G H M a = none := by
  unfold bor
  rw [hg]
  by_cases c : a ∈ feet M
  · rw [if_pos c]
    cases y : H a with
    | none => rfl
    | some u => cases u <;> first | rfl | exact absurd y (h _)
  · rw [if_neg c]
theorem nl_at {a : Addr} {o : HO} (h : nl G a = some o) : G a = some o ∧ ∀ ws, o ≠ .lst ws := by
  unfold nl at h
  cases q : G a with
  | none => rw [q] at h; cases h
  | some u =>
    rw [q] at h
    cases u <;> first | (cases h; done) | (simp at h; subst h; exact ⟨rfl, fun ws e => by cases e⟩)
theorem nl_of {a : Addr} {o : HO} (h : G a = some o) (hn : ∀ ws, o ≠ .lst ws) : nl G a = some o := by
  unfold nl
  rw [h]
  cases o <;> first | rfl | exact absurd rfl (hn _)
theorem Ok.bor (o : Ok B G H M) (g : Gr (bor G H M) H G2 H2) : ∃ G3, Gr G H G3 H2 ∧ Ex (nl G2) G3 := by
  refine ⟨fun a => if a ∈ feet M then none else G2 a, ⟨fun a u z => ?_, g.h, fun a u z => ?_, fun a u z y => ?_⟩, fun a u z => ?_⟩
  · have c : a ∉ feet M := fun q => by rw [o.z a q] at z; cases z
    show (if a ∈ feet M then none else G2 a) = some u
    rw [if_neg c]
    exact g.g a u (bor_g a u z)
  · have z' : (if a ∈ feet M then none else G2 a) = some u := z
    by_cases c : a ∈ feet M
    · rw [if_pos c] at z'; cases z'
    · rw [if_neg c] at z'; exact g.i a u z'
  · show (if a ∈ feet M then none else G2 a) = none
    by_cases c : a ∈ feet M
    · rw [if_pos c]
    · rw [if_neg c]
      exact g.n a u z (bor_no y c)
  · obtain ⟨z1, z2⟩ := nl_at z
    show (if a ∈ feet M then none else G2 a) = some u
    have c : a ∉ feet M := fun q => by
      have gz := o.z a q
      obtain ⟨R, hR, ha⟩ := List.mem_flatMap.mp q
      obtain ⟨w, hw⟩ := R.at_ (o.m R hR) a ha
      have hu := g.i a u z1
      rw [g.h a w hw] at hu
      cases hu
      have hb : Mu.bor G H M a = none := bor_nl gz fun ws e => z2 ws (by rw [hw] at e; exact Option.some.inj e)
      rw [g.n a _ hw hb] at z1
      cases z1
    rw [if_neg c]
    exact z1
def BorR (M : List Re) (r0 r : Rp) : Prop := ∀ B G H, Ok B G H M → ∀ v, r0.p v G → r.p v (bor G H M)
def BorC (M : List Re) (Γ Γ' : Ctx) : Prop := ∀ B G H σ, Ok B G H M → En σ G Γ → En σ (bor G H M) Γ'
theorem br_same : BorR M r r := fun B G H o v h => r.mono bor_g h
theorem br_ra (h : Paired (BorR M) rs0 rs) : ∀ {B : Ba} {G H : Hp} {ws : List V}, Ok B G H M → RA G ws rs0 → RA (bor G H M) ws rs := by
  induction h with
  | nil => intro B G H ws o q; cases q; exact .nil
  | cons h t ih => intro B G H ws o q; cases q with | cons a b => exact .cons (h B G H o _ a) (ih o b)
theorem br_lst (hk : M[k]? = some (lstR p rs0)) (h : Paired (BorR M) rs0 rs) : BorR M (rV (.ref p)) (rL K rs) := fun B G H o v hv => by
  obtain rfl : v = V.ref p := hv
  have hm := List.mem_of_getElem? hk
  obtain ⟨ws, h1, h2⟩ := o.m _ hm
  have hf := mem_feet hm (List.mem_singleton.mpr rfl)
  exact ⟨p, ws, rfl, bor_l (o.z p hf) hf h1, br_ra h o h2⟩
theorem br_all : ∀ {rs : List Rp}, Paired (BorR M) rs rs
  | [] => .nil
  | _ :: _ => .cons br_same br_all
theorem br_lst1 (hk : M[k]? = some (lstR p rs)) : BorR M (rV (.ref p)) (rL K rs) := br_lst hk br_all
theorem bc_refl : BorC M Γ Γ := fun B G H σ o en => en.mono bor_g
theorem En.put {v : V} (q : r.p v G) : ∀ {σ : L2.St} {Γ : Ctx} {i : Nat}, En σ G Γ → σ[i]? = some (some v) → En σ G (Γ.set i (some r))
  | _, _, _, .nil, _ => .nil
  | _, _, 0, .cons _ t, e => .cons (fun x hx => ⟨v, by simpa using e, by cases hx; exact q⟩) t
  | _, _, i + 1, .cons h t, e => .cons h (En.put q t (by simpa using e))
theorem bc_set (h : BorC M Γ Γ1) (hi : Γ[i]? = some (some r0)) (hr : BorR M r0 r) : BorC M Γ (Γ1.set i (some r)) := fun B G H σ o en => by
  obtain ⟨v, h1, h2⟩ := en.get hi
  exact En.put (hr B G H o v h2) (h B G H σ o en) h1
theorem e_bor (hb : BorC M Γ Γ') (h : EvX Γ' te r) (lf : LF r) (kk : κ r M) : EW W Γ M te κ ε := fun B G H σ o en Q q x =>
  h σ _ (hb B G H σ o en) H (bor_i o.i) Q fun v G2 H2 g hv => by
    obtain ⟨G3, g3, e3⟩ := o.bor g
    exact q v G3 H2 r M kk (o.gr g3) g3.g (r.mono e3 (lf v G2 hv))
theorem et_bor {κ : Bool → List Re → Prop} {c : Bool} (hb : BorC M Γ Γ') (h : EvTX Γ' t c) (kk : κ c M) : ET W Γ M t κ ε := fun B G H σ o en Q q x =>
  h σ _ (hb B G H σ o en) H (bor_i o.i) Q fun H2 e => q c G H2 M kk (o.ex e) (Ex.refl _)
/-! what holds no lists -/
theorem lf_v {v : V} : LF (rV v) := fun _ _ h => h
theorem lf_ra (h : ∀ r ∈ rs, LF r) : ∀ {ws : List V}, RA G ws rs → RA (nl G) ws rs := by
  induction rs with
  | nil => intro ws q; cases q; exact .nil
  | cons a t ih => intro ws q; cases q with | cons x y => exact .cons (h a List.mem_cons_self _ _ x) (ih (fun r hr => h r (List.mem_cons_of_mem _ hr)) y)
theorem lf_sqT {a : Addr} {xs : List V} (h : SqT K G a xs) : SqT K (nl G) a xs := by
  rcases h with h | h
  · left
    unfold Rd at h ⊢
    rcases h with h | ⟨od, h⟩
    · exact .inl (nl_of h fun ws e => by cases e)
    · exact .inr ⟨od, nl_of h fun ws e => by cases e⟩
  · exact .inr h
theorem lf_t (h : ∀ r ∈ rs, LF r) : LF (rT K rs) := fun v G hv => by
  obtain ⟨a, ws, rfl, h1, h2⟩ := hv
  exact ⟨a, ws, rfl, lf_sqT h1, lf_ra h h2⟩
theorem lf_tm {α : Type} {l : List α} {ρ : α → Rp} (h : ∀ a, LF (ρ a)) : LF (rT K (l.map ρ)) := lf_t fun r hr => by
  obtain ⟨a, _, rfl⟩ := List.mem_map.mp hr
  exact h a
theorem lf_fs (h : ∀ f ∈ fs, LF f.2) : ∀ {ws : List (Str × V)}, FsR G ws fs → FsR (nl G) ws fs := by
  induction fs with
  | nil => intro ws q; cases q; exact .nil
  | cons a t ih => intro ws q; cases q with | cons x y => exact .cons ⟨x.1, h a List.mem_cons_self _ _ x.2⟩ (ih (fun r hr => h r (List.mem_cons_of_mem _ hr)) y)
theorem lf_ins (h : ∀ f ∈ fs, LF f.2) : LF (rIns C fs) := fun v G hv => by
  obtain ⟨a, dx, ws, rfl, h1, h2⟩ := hv
  exact ⟨a, dx, ws, rfl, nl_of h1 (fun ws e => by cases e), lf_fs h h2⟩
theorem lf_tn {l : List Nat} : LF (rTn K l) := lf_tm fun _ => lf_v
theorem lf_tab {m : List Nat} : LF (rTab K C m) := fun v G hv => by
  obtain ⟨a, dx, t, c, rfl, h1, h2, h3⟩ := hv
  exact ⟨a, dx, t, c, rfl, nl_of h1 (fun ws e => by cases e), lf_tn _ _ h2, lf_tm (ρ := rP K) (fun q => lf_t fun r hr => by
    simp only [List.mem_cons, List.not_mem_nil, or_false] at hr
    rcases hr with rfl | rfl <;> exact lf_v) _ _ h3⟩
end
/-! ### comprehensions whose items change what may be changed -/
section
variable {W : WX} {Γ : Ctx} {M : List Re} {te ta tb tl : TE} {K : PySem.W.Frag} {κ : KV} {ε : KX} {i j n : Nat} {vs : List Nat} {α : Type}
def DcG (B : Ba) (G : Hp) (M : List Re) (Dl : Addr) (J : Nat → List Rp → List Re → Prop) (i : Nat) (H' : Hp) : Prop := ∃ (G' : Hp) (acc : List Rp) (X : List Re), Ex G G' ∧ acc.length = i ∧ J i acc X ∧ Ok B G' H' (M ++ lstR Dl acc :: X)
theorem dg_start {B : Ba} {G H : Hp} {Dl : Addr} {J : Nat → List Rp → List Re → Prop} (o : Ok B G H M) (hD : H Dl = none) (h : J 0 [] []) : DcG B G M Dl J 0 (upd H Dl (.lst [])) :=
  ⟨G, [], [], Ex.refl _, rfl, h, o.add2 (o.ex (Ex.new hD)) (R := lstR Dl []) (by show [_].Nodup; simp) (fun x hx => by rw [List.mem_singleton.mp hx]; exact ⟨hD, fresh_back o.i hD⟩) ⟨[], upd_same, .nil⟩⟩
theorem dg_step {B : Ba} {G H' : Hp} {Dl : Addr} {σ2 : L2.St} {Γ2 : Ctx} {J : Nat → List Rp → List Re → Prop} (hz : i < 40000) (p : DcG B G M Dl J i H') (en : ∀ G', Ex G G' → En σ2 G' Γ2) (he : ∀ R acc X W, J i acc X → EW W Γ2 (M ++ R :: X) te (fun r M' => ∃ X', M' = M ++ R :: X' ∧ J (i + 1) (acc ++ [r]) X') (fun _ _ _ => False)) :
    te σ2 H' fun y H4 => ∃ acc, H4 Dl = some (.lst acc) ∧ acc.length < sizeLine ∧ DcG B G M Dl J (i + 1) (upd H4 Dl (.lst (acc ++ [y]))) := by
  obtain ⟨G', acc, X, e, hl, hJ, o⟩ := p
  refine he (lstR Dl acc) acc X (fun _ _ _ _ => True) hJ B G' H' σ2 o (en G' e) _ (fun v G2 H2 r M' z o2 e2 hr => ?_) (fun _ _ _ _ _ _ z => z.elim)
  obtain ⟨X', rfl, hJ'⟩ := z
  have hk : (M ++ lstR Dl acc :: X')[M.length]? = some (lstR Dl acc) := by simp
  have hm := List.mem_of_getElem? hk
  obtain ⟨ws, h1, h2⟩ := o2.m _ hm
  have gD : G2 Dl = none := o2.z Dl (mem_feet hm (List.mem_singleton.mpr rfl))
  have hlen : ws.length = i := by rw [h2.len, hl]
  refine ⟨ws, h1, sz_lt (by omega), G2, acc ++ [r], X', e.trans e2, by rw [List.length_append, hl]; rfl, hJ', ?_⟩
  have o3 := o2.chg hk (R' := lstR Dl (acc ++ [r])) rfl rfl (Ex.refl G2) (H2 := upd H2 Dl (.lst (ws ++ [v]))) (fun x u z n => by rw [upd_ne (fun q => n (List.mem_singleton.mpr q))]; exact z) (Ex.mut o2.i gD) (fun _ _ _ y => y) ⟨ws ++ [v], upd_same, h2.append (.cons hr .nil)⟩
  have es : (M ++ lstR Dl acc :: X').set M.length (lstR Dl (acc ++ [r])) = M ++ lstR Dl (acc ++ [r]) :: X' := by
    rw [List.set_append_right _ _ (Nat.le_refl _), Nat.sub_self]; rfl
  rw [es] at o3
  exact o3
theorem e_lcG' {ta : TA} (J : Nat → List Rp → List Re → Prop) (h : ∀ σ G, En σ G Γ → EvA ta σ G [.int (n : Int)]) (hz : n ≤ 40000) (h0 : J 0 [] []) (he : ∀ i R acc X W, i < n → J i acc X → EW W ((wipeC Γ vs).set j (some (nI i))) (M ++ R :: X) te (fun r M' => ∃ X', M' = M ++ R :: X' ∧ J (i + 1) (acc ++ [r]) X') (fun _ _ _ => False)) (hj : j ∈ vs)
    (kk : ∀ p acc X, acc.length = n → J n acc X → κ (rV (.ref p)) (M ++ lstR p acc :: X)) : EW W Γ M (tLc (iRng1 ta) (gName j) tYes te vs) κ ε := fun B G H σ o en Q q x => h σ G en H o.i _ fun H1 e1 => by
  refine ⟨(n : Int), rfl, by omega, by omega, fun Dl hD => ?_⟩
  rw [Int.toNat_natCast]
  refine lc_range (lo := 0) (n := n) (fun i H' => DcG B G M Dl J i H') (dg_start (o.ex e1) hD h0) (fun i H' hi p => ?_) (fun H' p => ?_)
  · have e0 : (0 : Int) + (i : Int) = (i : Int) := Int.zero_add _
    rw [e0]
    refine ⟨wipe_turn σ hj _, ?_⟩
    dsimp only [tYes]
    rw [if_pos rfl]
    exact dg_step (by omega) p (fun G' e => en_at (r := nI i) (en.mono e) rfl) (fun R acc X W z => he i R acc X W hi z)
  · obtain ⟨G', acc, X, e, hl, hJ, o2⟩ := p
    exact q (.ref Dl) G' H' _ _ (kk Dl acc X hl hJ) o2 e rfl
theorem e_lcG {ta : TE} (J : Nat → List Rp → List Re → Prop) (h : EvX Γ ta (nI n)) (hz : n ≤ 40000) (h0 : J 0 [] []) (he : ∀ i R acc X W, i < n → J i acc X → EW W ((wipeC Γ vs).set j (some (nI i))) (M ++ R :: X) te (fun r M' => ∃ X', M' = M ++ R :: X' ∧ J (i + 1) (acc ++ [r]) X') (fun _ _ _ => False)) (hj : j ∈ vs)
    (kk : ∀ p acc X, acc.length = n → J n acc X → κ (rV (.ref p)) (M ++ lstR p acc :: X)) : EW W Γ M (tLc (iRng1 (tCons ta tNil)) (gName j) tYes te vs) κ ε :=
  e_lcG' J (fun σ G en => ea_cons (EvD.ev (h σ G en)) ea_nil) hz h0 he hj kk
theorem e_lcGL (l : List α) (ρ : α → Rp) (J : Nat → List Rp → List Re → Prop) (h : EvX Γ tl (rL K (l.map ρ))) (hz : l.length ≤ 40000) (h0 : J 0 [] []) (he : ∀ i a R acc X W, l[i]? = some a → J i acc X → EW W ((wipeC Γ vs).set j (some (ρ a))) (M ++ R :: X) te (fun r M' => ∃ X', M' = M ++ R :: X' ∧ J (i + 1) (acc ++ [r]) X') (fun _ _ _ => False)) (hj : j ∈ vs)
    (kk : ∀ p acc X, acc.length = l.length → J l.length acc X → κ (rV (.ref p)) (M ++ lstR p acc :: X)) : EW W Γ M (tLc (iList K tl) (gName j) tYes te vs) κ ε := fun B G H σ o en Q q x => h σ G en H o.i _ fun v G1 H1 g1 hv => by
  obtain ⟨a, ws, rfl, h1, h2⟩ := hv
  have o1 := o.gr g1
  refine ⟨a, rfl, ⟨ws, sq_of (o1.i _ _ h1)⟩, fun Dl hD => ?_⟩
  have hlen : ws.length = l.length := by rw [h2.len, List.length_map]
  refine lc_list (xs := ws) (fun i H' => DcG B G1 M Dl J i H') (dg_start o1 hD h0) (fun i H' hi p => ?_) (fun i y H' hy p => ?_) (fun H' p => ?_)
  · obtain ⟨G', acc, X, e, hl, hJ, o2⟩ := p
    exact sq_of (o2.i _ _ (e _ _ h1))
  · have hi : i < l.length := by
      rw [← hlen]
      exact (List.getElem?_eq_some_iff.mp hy).1
    obtain ⟨b, hb⟩ : ∃ b, l[i]? = some b := ⟨_, List.getElem?_eq_getElem hi⟩
    obtain ⟨y', hy', ry⟩ := h2.get (r := ρ b) (by rw [List.getElem?_map, hb]; rfl)
    rw [hy] at hy'
    cases hy'
    refine ⟨wipe_turn σ hj _, ?_⟩
    dsimp only [tYes]
    rw [if_pos rfl]
    exact dg_step (by omega) p (fun G' e => en_at (en.mono (g1.g.trans e)) ((ρ b).mono e ry)) (fun R acc X W z => he i b R acc X W hb z)
  · obtain ⟨G', acc, X, e, hl, hJ, o2⟩ := p
    rw [hlen] at hl hJ
    exact q (.ref Dl) G' H' _ _ (kk Dl acc X hl hJ) o2 (g1.g.trans e) rfl
end
/-! ### things forgotten; lists of lists of our own -/
section
variable {B : Ba} {G H : Hp} {M M1 M2 : List Re} {W : WX} {Γ : Ctx} {te : TE} {t : TS} {κ : Kn} {ε : KX} {K : PySem.W.Frag} {rs rs0 : List Rp} {p : Addr}
theorem Ok.few (o : Ok B G H (M1 ++ M2)) : Ok B G H M1 where
  g := o.g
  l := o.l
  h := o.h
  i := o.i
  n := o.n
  k := o.k
  m := fun r hr => o.m r (List.mem_append_left _ hr)
  z := fun a ha => o.z a (by unfold feet at ha ⊢; rw [List.flatMap_append]; exact List.mem_append_left _ ha)
  d := by
    have h := o.d
    unfold feet at h ⊢
    rw [List.flatMap_append] at h
    exact (List.nodup_append.mp h).1
  f := fun r hr => o.f r (List.mem_append_left _ hr)
theorem w_few (M1 M2 : List Re) (h : WP W Γ M1 t κ) : WP W Γ (M1 ++ M2) t κ := fun B G H σ D o en d => h B G H σ D o.few en d
theorem EW.few {κ : KV} (h : EW W Γ M te (fun r M' => ∃ M1 M2, M' = M1 ++ M2 ∧ κ r M1) ε) : EW W Γ M te κ ε := fun B G H σ o en Q q x => h B G H σ o en Q (fun v G' H' r M' z o' e hv => by
  obtain ⟨M1, M2, rfl, k⟩ := z
  exact q v G' H' r M1 k o'.few e hv) x
theorem br_mem (hm : lstR p rs0 ∈ M) (h : Paired (BorR M) rs0 rs) : BorR M (rV (.ref p)) (rL K rs) := by
  obtain ⟨k, hk, e⟩ := List.mem_iff_getElem.mp hm
  exact br_lst (k := k) (by rw [List.getElem?_eq_getElem hk, e]) h
theorem br_own : ∀ {qs : List Addr} {rss : List (List Rp)}, qs.length = rss.length → (∀ R ∈ List.zipWith lstR qs rss, R ∈ M) → Paired (BorR M) (qs.map fun q => rV (.ref q)) (rss.map (rL K))
  | [], [], _, _ => .nil
  | q :: qs, rs :: rss, hl, hm => .cons (br_mem (hm _ (by simp)) br_all) (br_own (by simpa using hl) fun R hR => hm R (by simp only [List.zipWith_cons_cons]; exact List.mem_cons_of_mem _ hR))
theorem own_set : ∀ {qs : List Addr} {rss : List (List Rp)} {k : Nat} {q : Addr} {rs : List Rp}, qs[k]? = some q → (List.zipWith lstR qs rss).set k (lstR q rs) = List.zipWith lstR qs (rss.set k rs)
  | [], _, _, _, _, h => by simp at h
  | _ :: _, [], _, _, _, _ => by simp
  | q :: qs, r :: rss, 0, q', rs, h => by
    obtain rfl : q = q' := by simpa using h
    rfl
  | q :: qs, r :: rss, k + 1, q', rs, h => by
    show lstR q r :: (List.zipWith lstR qs rss).set k _ = lstR q r :: List.zipWith lstR qs (rss.set k rs)
    rw [own_set (by simpa using h)]
theorem own_get {qs : List Addr} {rss : List (List Rp)} {k : Nat} {q : Addr} {rs : List Rp} (h1 : qs[k]? = some q) (h2 : rss[k]? = some rs) : (List.zipWith lstR qs rss)[k]? = some (lstR q rs) := by
  rw [List.getElem?_zipWith, h1, h2]
end
end Mu

namespace Mu
open PySem PySem.Spec PyProof.Rows L2 Evl
/-! ### super() in a def with cells -/
theorem cf_app : ∀ (names : List (Str × NameKind)) (n : Nat) (acc : List (Str × Addr)), cellsFrom n names acc = cellsFrom n names [] ++ acc
  | [], _, _ => rfl
  | (x, k) :: r, n, acc => by
    unfold cellsFrom
    split
    · rw [cf_app r (n + 1) ((x, n) :: acc), cf_app r (n + 1) [(x, n)], List.append_assoc]; rfl
    · exact cf_app r n acc
theorem cf_mem : ∀ {names : List (Str × NameKind)} {n : Nat} {x : Str} {c : Addr}, (x, c) ∈ cellsFrom n names [] → (x, .cell) ∈ names
  | [], _, _, _, h => by cases h
  | (y, k) :: r, n, x, c, h => by
    unfold cellsFrom at h
    split at h
    · rename_i hk
      rw [cf_app] at h
      rcases List.mem_append.mp h with q | q
      · exact List.mem_cons_of_mem _ (cf_mem q)
      · simp only [List.mem_cons, List.not_mem_nil, or_false, Prod.mk.injEq] at q
        rw [q.1, beq_iff_eq.mp hk]
        exact List.mem_cons_self
    · exact List.mem_cons_of_mem _ (cf_mem h)
theorem lk_app {α : Type} {x : Str} : ∀ {l r : List (Str × α)}, (l ++ r).lookup x = match l.lookup x with
    | some c => some c
    | none => r.lookup x
  | [], _ => rfl
  | (y, c) :: l, r => by
    rw [List.cons_append, List.lookup_cons, List.lookup_cons]
    cases x == y with
    | true => rfl
    | false => exact lk_app
abbrev scEnv (name : Str) (scope : Scope) (L a : Addr) (cd : Value) (cc : Addr) : Env := PySem.W.envX name scope L a cd (cellsFrom (L + 1) scope.names [("__class__", cc)])
structure FsScopeC (N ps : List Str) (sc : Scope) : Prop where
  kind : sc.kind = .function
  co : sc.isCoroutine = false
  gen : sc.isGenerator = false
  nd : N.Nodup
  pre : N.take ps.length = ps
  par : ∀ x ∈ ps, sc.names.lookup x = some .local ∨ sc.names.lookup x = some .cell
  ncl : ∀ y ∈ sc.names, y.2 = .cell → y.1 ≠ ("__class__" : Str)
  free : ∀ y ∈ sc.names, y.2 = .free → y.1 = ("__class__" : Str)
  sup : sc.names.lookup ("super" : Str) = some .globalImplicit
  cls : sc.names.lookup ("__class__" : Str) = some .free
abbrev cxC (CX : CXT) (P : Program) (w : World) (K : PySem.W.Frag) (mg : Str → Option Value) (base : Heap) (N : List Str) (qual : Str) (scope : Scope) (f cda cc : Addr) (A : Around) (outer : List Env) (s : Shared) (H : Hp) (E : XK) : Cx where
  prog := P
  w := w
  K := K
  mg := mg
  base := base
  A := A.deeper (scEnv qual scope s.heap.objs.size f (.ref cda) cc)
  N := N
  s_0 := s
  H_0 := H
  env := scEnv qual scope s.heap.objs.size f (.ref cda) cc
  outer := outer
  stack := scEnv qual scope s.heap.objs.size f (.ref cda) cc :: outer
  ex := []
  calm := true
  fn := fun y => !(y == ("__class__" : Str))
  pn := []
  xe := fun e s' => wpAny (model P w) (A.deeper (scEnv qual scope s.heap.objs.size f (.ref cda) cc)) (leaving (scEnv qual scope s.heap.objs.size f (.ref cda) cc) e) (fun _ s'' => CX outer H s E e s'') (fun e' s'' => CX outer H s E e' s'') s'
theorem own_no {names : List (Str × NameKind)} {n : Nat} (h : ∀ y ∈ names, y.2 = .cell → y.1 ≠ ("__class__" : Str)) : (cellsFrom n names []).lookup ("__class__" : Str) = none := by
  cases q : (cellsFrom n names []).lookup ("__class__" : Str) with
  | none => rfl
  | some c => exact absurd rfl (h _ (cf_mem (PySem.mem_of_lookup q)) rfl)
theorem sc_cls {names : List (Str × NameKind)} {n : Nat} {cc : Addr} (h : ∀ y ∈ names, y.2 = .cell → y.1 ≠ ("__class__" : Str)) : (cellsFrom n names [(("__class__" : Str), cc)]).lookup ("__class__" : Str) = some cc := by
  rw [cf_app, lk_app, own_no h]
  simp [List.lookup]
/-- a cell: one of our own, or the class's -/
theorem sc_split {names : List (Str × NameKind)} {n : Nat} {cc c : Addr} {x : Str} (h : (cellsFrom n names [(("__class__" : Str), cc)]).lookup x = some c) : (cellsFrom n names []).lookup x = some c ∨ (x = ("__class__" : Str) ∧ c = cc) := by
  rw [cf_app, lk_app] at h
  cases q : (cellsFrom n names []).lookup x with
  | some d => rw [q] at h; exact .inl h
  | none =>
    rw [q] at h
    have h' : List.lookup x [(("__class__" : Str), cc)] = some c := h
    rw [List.lookup_cons] at h'
    cases e : x == ("__class__" : Str) with
    | true => rw [e] at h'; exact .inr ⟨by simpa using e, (Option.some.inj h').symm⟩
    | false => rw [e] at h'; cases h'
theorem sc_own {names : List (Str × NameKind)} {n : Nat} {cc c : Addr} {x : Str} (h : (cellsFrom n names []).lookup x = some c) : (cellsFrom n names [(("__class__" : Str), cc)]).lookup x = some c := by
  rw [cf_app, lk_app, h]
section
variable {M : Model} {A : Around} {E : Value → Shared → Prop} {s₀ s : Shared} {m cm : Str → Option Value} {env : Env} {own : List (Str × Addr)}
theorem stLX {n : Str} {v : Value} {Q : Unit → Shared → Prop} (x : InCallC s₀ env.locals m own cm s) (hk : env.scope.kind = .function) (hl : env.kindOf n = some .local)
    (h : ∀ s', InCallC s₀ env.locals (fun y => if y = n then some v else m y) own cm s' → Q () s') : wpAny M A (storeName env n v) Q E s := by
  refine wpAny_storeName_local hl x.toInCall.ns (fun h' hn' hs' => h _ ⟨⟨?_, hn', fun b o e => ?_, x.toInCall.fresh⟩, fun k c hc => ?_, x.apart, x.above⟩) (by rw [hk]; rfl)
  · obtain ⟨h₁, tk, rfl⟩ := x.toInCall.same
    exact ⟨h', _, rfl⟩
  · exact hs'.extBut b o (Nat.ne_of_lt (Nat.lt_of_lt_of_le (Heap.lt_size e) x.toInCall.fresh)) (x.toInCall.keep b o e)
  · exact (x.cell k c hc).sameBut hs' (Nat.ne_of_gt (x.above k c (PySem.mem_of_lookup hc)))
theorem stCX {n : Str} {c : Addr} {v : Value} {Q : Unit → Shared → Prop} (x : InCallC s₀ env.locals m own cm s) (hk : env.scope.kind = .function) (hl : env.kindOf n = some .cell)
    (hc : own.lookup n = some c) (hc2 : env.cells.lookup n = some c)
    (h : ∀ s', InCallC s₀ env.locals m own (fun y => if y = n then some v else cm y) s' → Q () s') : wpAny M A (storeName env n v) Q E s := by
  have hLc := x.above n c (PySem.mem_of_lookup hc)
  refine wpAny_storeName_cell hk hl hc2 (x.cell n c hc) fun h' hc' hs' => h _ ⟨⟨?_, x.toInCall.ns.sameBut hs' (Nat.ne_of_lt hLc), fun b o e => ?_, x.toInCall.fresh⟩, fun k c' hk' => ?_, x.apart, x.above⟩
  · obtain ⟨h₁, tk, rfl⟩ := x.toInCall.same
    exact ⟨h', _, rfl⟩
  · exact hs'.extBut b o (Nat.ne_of_lt (Nat.lt_trans (Nat.lt_of_lt_of_le (Heap.lt_size e) x.toInCall.fresh) hLc)) (x.toInCall.keep b o e)
  · by_cases hkn : k = n
    · subst hkn
      rw [hc] at hk'; cases hk'
      simpa using hc'
    · rw [if_neg hkn]
      exact (x.cell k c' hk').sameBut hs' fun e => hkn (name_of_addr x.apart (PySem.mem_of_lookup hk') (e ▸ PySem.mem_of_lookup hc))
theorem bindParamsX (f : Str × Value → PUnit → Sem (ForInStep PUnit)) (hf : ∀ n v u, f (n, v) u = (do storeName env n v; pure (.yield ⟨⟩))) (hk : env.scope.kind = .function) (hown : ∀ n c, own.lookup n = some c → env.cells.lookup n = some c) :
    ∀ (binds : List (Str × Value)) (m cm : Str → Option Value) (s : Shared) (Q : PUnit → Shared → Prop), InCallC s₀ env.locals m own cm s →
      (∀ x ∈ binds, env.kindOf x.1 = some .local ∨ (env.kindOf x.1 = some .cell ∧ (own.lookup x.1).isSome = true)) →
      (∀ s', InCallC s₀ env.locals (bindL env.kindOf binds m) own (bindC env.kindOf binds cm) s' → Q ⟨⟩ s') → wpAny M A (forIn binds ⟨⟩ f) Q E s
  | [], m, cm, s, Q, x, _, h => by rw [List.forIn_nil]; exact wpAny_pure (h s x)
  | (n, v) :: r, m, cm, s, Q, x, hkind, h => by
    rw [List.forIn_cons, hf]
    have hr : ∀ y ∈ r, env.kindOf y.1 = some .local ∨ (env.kindOf y.1 = some .cell ∧ (own.lookup y.1).isSome = true) := fun y hy => hkind y (List.mem_cons_of_mem _ hy)
    rcases hkind (n, v) List.mem_cons_self with hl | ⟨hl, hc⟩
    · refine wpAny_bind (wpAny_bind (stLX x hk hl fun s' x' => wpAny_pure (bindParamsX f hf hk hown r _ _ s' Q x' hr fun s'' x'' => h s'' ?_)))
      unfold bindL bindC; rw [if_pos hl, if_pos hl]; exact x''
    · obtain ⟨c, hc⟩ := Option.isSome_iff_exists.mp hc
      have hnl : ¬ env.kindOf n = some .local := by rw [hl]; decide
      refine wpAny_bind (wpAny_bind (stCX x hk hl hc (hown _ _ hc) fun s' x' => wpAny_pure (bindParamsX f hf hk hown r _ _ s' Q x' hr fun s'' x'' => h s'' ?_)))
      unfold bindL bindC; rw [if_neg hnl, if_neg hnl]; exact x''
end
theorem newEnvX {M : Model} {A : Around} {E : Value → Shared → Prop} {s : Shared} {scope : Scope} {globals : Addr} {binds : List (Str × Value)} {qual : Str} {func : Option Addr} {code : Value} {builtins cc : Addr} {Q : Env → Shared → Prop}
    (hk : scope.kind = .function)
    (hkind : ∀ x ∈ binds, scope.names.lookup x.1 = some .local ∨ (scope.names.lookup x.1 = some .cell ∧ ((cellsFrom (s.heap.objs.size + 1) scope.names []).lookup x.1).isSome = true))
    (hQ : ∀ env, env = newEnv scope s.heap.objs.size globals (cellsFrom (s.heap.objs.size + 1) scope.names [(("__class__" : Str), cc)]) qual func code none builtins →
      ∀ s', InCallC s env.locals (bindL env.kindOf binds fun _ => none) (cellsFrom (s.heap.objs.size + 1) scope.names []) (bindC env.kindOf binds fun _ => none) s' → Q env s') :
    wpAny M A (newFunctionEnv scope globals [(("__class__" : Str), cc)] binds qual func code none builtins) Q E s := by
  simp only [newFunctionEnv, Option.isSome_none, Bool.false_eq_true, if_false]
  refine wpAny_bind (wpAny_alloc ?_)
  refine wpAny_bind (wpAny_layCells _ (fun name kind cells => by cases hkc : kind == NameKind.cell <;> simp [hkc]) _ _ _ _ ?_)
  have ok := cellsFrom_ok scope.names (s.heap.push { cls := .type "frame", data := .dict #[] }) (s.heap.objs.size + 1) [] ⟨fun _ _ hm => (nomatch hm), List.Pairwise.nil⟩ (by rw [Heap.size_push]; exact Nat.le_refl _)
  rw [Heap.size_push] at ok
  rw [show ({ s with heap := s.heap.push { cls := .type "frame", data := .dict #[] } } : Shared).heap.objs.size = s.heap.objs.size + 1 from Heap.size_push ..]
  refine wpAny_bind (bindParamsX (s₀ := s) (env := newEnv scope s.heap.objs.size globals (cellsFrom (s.heap.objs.size + 1) scope.names [(("__class__" : Str), cc)]) qual func code none builtins)
    (own := cellsFrom (s.heap.objs.size + 1) scope.names []) _ (fun _ _ _ => rfl) hk (fun n c h => sc_own h) binds (fun _ => none) (fun _ => none) _ _
    ⟨⟨⟨_, _, rfl⟩, (Heap.Ns.new s.heap (.type "frame")).keeps (pushCells_keeps _ _), fun b o e => pushCells_keeps _ _ b o (Heap.get?_push_of_some _ e), Nat.le_refl _⟩,
      fun n c hc => (ok.empty n c (PySem.mem_of_lookup hc)).1, ok.apart, fun n c hm => (ok.empty n c hm).2⟩
    hkind fun s' x => wpAny_pure (hQ _ rfl s' x))
theorem inv_startC {CX : CXT} {P : Program} {w : World} {K : PySem.W.Frag} {mg : Str → Option Value} {base : Heap} {N ps : List Str} {x qual : Str} {params : Arguments} {body : List Stmt} {scope : Scope} {file : Str} {D f : Addr} {fd : FuncData} {cda cc : Addr} {A : Around} {outer : List Env} {s s1 : Shared} {H : Hp} {E : XK} {us : List Value} {vs : List V}
    (F : FunS K x qual params body scope file D f fd cda cc) (S : FsScopeC N ps scope) (hd : A.handled = none) (e0 : Env0 P w K mg base A outer s H) (hl : vs.length = ps.length) (r : Vals vs us)
    (x : InCallC s s.heap.objs.size (bindL (scEnv qual scope s.heap.objs.size f (.ref cda) cc).kindOf (ps.zip us) fun _ => none) (cellsFrom (s.heap.objs.size + 1) scope.names []) (bindC (scEnv qual scope s.heap.objs.size f (.ref cda) cc).kindOf (ps.zip us) fun _ => none) s1) :
    Inv (cxC CX P w K mg base N qual scope f cda cc A outer s H E) [] (L2.start N vs) H s1 := by
  have hpl : ps.length ≤ N.length := by have := congrArg List.length S.pre; rw [List.length_take] at this; omega
  obtain ⟨cl, cld, csl, hcell⟩ := F.cell
  have hccb := e0.mod.kin _ _ hcell
  have hcc := e0.bs _ _ hccb
  have hlt : cc < s.heap.objs.size := Heap.lt_size hcc.1
  obtain ⟨h1, tk, rfl, hk⟩ := x.done
  have noA : ∀ b : Addr, b ∉ (cxC CX P w K mg base N qual scope f cda cc A outer s H E).ex := fun b z => absurd (show b ∈ ([] : List Addr) from z) (by simp)
  refine ⟨⟨e0.mod, S.kind, rfl, rfl, Nat.le_refl _, fun y z c h1 h2 => ?_, fun y hy => ?_, fun y c h h2 => ?_, fun _ => hd, Around.frames_deeper e0.frames, .inr ⟨rfl, rfl⟩, fun b z => absurd z (noA b), e0.bs, e0.bsz, fun b _ _ => noA b, fun b z => absurd z (noA b), e0.funs, e0.frf⟩,
    rfl, e0.bare, Un.kept hk, ⟨_, x.toInCall.ns, fun i y v h1 h2 h3 => ?_⟩, fun y c h => ?_, e0.hok.fresh (Nat.le_refl _), fun y c h => ?_, fun p hp => absurd (show p ∈ ([] : List (Addr × Obj)) from hp) (by simp), e0.hok.kept hk, ?_⟩
  · rcases sc_split h1 with q1 | ⟨q1, q2⟩ <;> rcases sc_split h2 with r1 | ⟨r1, r2⟩
    · exact name_of_addr x.apart (PySem.mem_of_lookup q1) (PySem.mem_of_lookup r1)
    · have h3 := x.above y c (PySem.mem_of_lookup q1)
      rw [r2] at h3
      exact absurd (Nat.lt_trans h3 hlt) (Nat.lt_irrefl _)
    · have h3 := x.above z c (PySem.mem_of_lookup r1)
      rw [q2] at h3
      exact absurd (Nat.lt_trans h3 hlt) (Nat.lt_irrefl _)
    · rw [q1, r1]
  · have hy : scope.names.lookup y = some .cell ∨ scope.names.lookup y = some .free := hy
    rcases hy with hy | hy
    · obtain ⟨c, e⟩ := cell_has (n := s.heap.objs.size + 1) hy
      exact ⟨c, sc_own e⟩
    · have e := S.free _ (PySem.mem_of_lookup hy) rfl
      have e' : y = ("__class__" : Str) := e
      subst e'
      exact ⟨cc, sc_cls S.ncl⟩
  · rcases sc_split h2 with q1 | ⟨q1, q2⟩
    · exact Nat.le_of_lt (x.above y c (PySem.mem_of_lookup q1))
    · subst q1
      exact absurd (show (!(("__class__" : Str) == ("__class__" : Str))) = true from h) (by simp)
  · have hi : i < vs.length := by
      unfold L2.start at h2
      by_cases hi : i < vs.length
      · exact hi
      · rw [List.getElem?_append_right (by simpa using hi)] at h2
        rw [List.getElem?_replicate] at h2
        split at h2 <;> cases h2
    have ha : vs[i]? = some v := by
      unfold L2.start at h2
      rw [List.getElem?_append_left (by simpa using hi), List.getElem?_map] at h2
      cases e : vs[i]? with
      | none => rw [e] at h2; cases h2
      | some a => rw [e] at h2; cases h2; rfl
    obtain ⟨u, hu, rv⟩ := r.get ha
    have hp : ps[i]? = some y := by
      rw [← S.pre, List.getElem?_take_of_lt (by omega)]; exact h1
    have ndP : ps.Nodup := by rw [← S.pre]; exact S.nd.sublist (List.take_sublist _ _)
    refine ⟨u, rv, ?_⟩
    rcases S.par y (List.mem_of_getElem? hp) with k | k
    · exact .inl ⟨k, bindL_get ndP hp hu k⟩
    · obtain ⟨c, e⟩ := cell_has (n := s.heap.objs.size + 1) k
      refine .inr ⟨.inl k, c, sc_own e, ?_⟩
      have q := x.cell y c e
      rw [bindC_get ndP hp hu (by show scope.names.lookup y ≠ _; rw [k]; decide)] at q
      exact q
  · rcases sc_split h with q1 | ⟨q1, q2⟩
    · exact ⟨_, x.cell y c q1⟩
    · rw [q2]
      exact ⟨_, _, hk _ _ hcc.1, rfl⟩
  · rcases sc_split h with q1 | ⟨q1, q2⟩
    · exact e0.hok.fresh (Nat.le_of_lt (x.above y c (PySem.mem_of_lookup q1)))
    · rw [q2]; exact hcc.2
  · unfold L2.start
    show _ = N.length
    rw [List.length_append, List.length_map, List.length_replicate]
    omega
theorem FunS.okC {P : Program} {w : World} {K : PySem.W.Frag} {mg : Str → Option Value} {base : Heap} {x qual : Str} {params : Arguments} {body : List Stmt} {scope : Scope} {file : Str} {D f : Addr} {fd : FuncData} {cda cc : Addr} {CX : CXT} {N ps : List Str} {k : Nat} {sp : Sp}
    (F : FunS K x qual params body scope file D f fd cda cc) (S : FsScopeC N ps scope) (len : ∀ vs H Q E, sp vs H Q E → vs.length = ps.length)
    (hbody : ∀ (A : Around) (outer : List Env) (s : Shared) (H : Hp) (vs : List V) (Q : VK) (E : XK), Room k (A.deeper (scEnv qual scope s.heap.objs.size f (.ref cda) cc)) → sp vs H Q E →
      ∃ t, PSA (cxC CX P w K mg base N qual scope f cda cc A outer s H E) body body t ∧ t { nx := fun _ H' => Q .non H', rt := Q } (L2.start N vs) H) : FnOk P w K mg base CX (k + 1) f fd ps sp := by
  obtain ⟨oc, od, kV, doc, pm, an, ct, osl, rfl, lk⟩ := id F.fn
  refine ⟨len, fun A outer s H args us vs Q E hr e0 hb r hsp => ?_⟩
  have hl := len _ _ _ _ hsp
  have KX : K.In s.heap := e0.mod.kin.keeps fun b o e => (e0.bs b o e).1
  have lim : s.heap.NoLimit := e0.mod.nolimit.keeps fun b o e => (e0.bs b o e).1
  have hkind : ∀ y ∈ ps.zip us, scope.names.lookup y.1 = some .local ∨ (scope.names.lookup y.1 = some .cell ∧ ((cellsFrom (s.heap.objs.size + 1) scope.names []).lookup y.1).isSome = true) := fun ⟨n, v⟩ hy => by
    rcases S.par n (List.of_mem_zip hy).1 with q | q
    · exact .inl q
    · exact .inr ⟨q, PySem.W.cellsFrom_some _ _ _ (.inl q)⟩
  refine codeAny_call_function (fd := PySem.W.ksFn x qual params body scope .none kV doc pm an (.ref cda) ct cc) (body := body) hr.depth (KX _ _ lk) rfl S.co S.gen rfl (PySem.W.codeRec_of KX F.co) (hb _ _ _ _ ?_)
  refine newEnvX S.kind hkind fun env he s1 x1 => ?_
  subst he
  refine ⟨lim.keeps x1.toInCall.keep, ks_codeAny_funcAt ?_⟩
  obtain ⟨t, ht, hq⟩ := hbody A outer s H vs Q E (hr.deeper _) hsp
  have I := inv_startC (CX := CX) (E := E) F S hr.hd e0 hl r x1
  refine _root_.PySem.wpAt_mono (ht.run [] _ (L2.start N vs) H _ I hq) (fun fl s' hs => ?_) fun e s' hs => hs
  have fin : ∀ {σ' : L2.St} {H' : Hp} {v : V} {u : Value}, Inv (cxC CX P w K mg base N qual scope f cda cc A outer s H E) [] σ' H' s' → RelV v u → Q v H' → CE outer P w H s Q u s' :=
    fun {σ' H' v u} J rv q => ⟨v, H', J.os, J.bare, J.base, J.hok, rv, q⟩
  cases fl with
  | ret u =>
    obtain ⟨v, σ', H', J, rv, q⟩ := hs
    exact fin J rv q
  | next =>
    obtain ⟨σ', H', J, q⟩ := hs
    exact fin (v := V.non) (u := Value.none) J rfl q
  | brk =>
    obtain ⟨_, _, _, q⟩ := hs
    exact False.elim q
  | cont =>
    obtain ⟨_, _, _, q⟩ := hs
    exact False.elim q
theorem psa_setC {X : Cx} {fb rest : List Stmt} {e : Expr} {te : TE} {u : TS} {pos : Pos} {x : Str} {p' : Pos} {i : Nat} (hN : X.N.Nodup) (hi : X.N[i]? = some x) (hl : Loc X.env.scope x) (hf : X.fn x = true ∨ X.env.scope.names.lookup x = some .local) (h1 : PEA X fb e te) (h2 : PSs X rest u) (hs : swapsWith e (some (.Name x p')) pos.line X.env = pure false := by rfl) : PSA X fb (.Assign [.Name x p'] e pos :: rest) (tSeq (tAsg te (gName i)) u) := by
  refine ⟨fun pins s σ H D I h => ?_⟩
  refine ks_wpAt_execs_cons (ks_wpAt_Assign_Name (_root_.PySem.wpAt_mono (h1.run pins s σ H _ I h) (fun v s' ⟨y, H', I', r, q⟩ => ?_) fun _ _ z => z) hs)
  refine store_ok (v := y) I' hN hi hl r (fun s2 I2 => ?_) hf
  exact _root_.PySem.wpAt_of_wpAny (h2.run pins s2 _ H' D I2 q)
section
variable {CX CX2 : CXT} {P : Program} {w : World} {K : PySem.W.Frag} {mg : Str → Option Value} {base : Heap} {N ps ps2 : List Str} {x qual : Str} {params : Arguments} {body : List Stmt} {scope : Scope} {file : Str} {D f f2 : Addr} {fd fd2 : FuncData} {cda cc : Addr} {A : Around} {outer : List Env} {s0 : Shared} {H0 : Hp} {E0 : XK}
  {pins : List (Addr × Obj)} {σ : L2.St} {H : Hp} {s : Shared} {fb : List Stmt} {E : Value → Shared → Prop} {k2 : Nat} {sp2 : Sp} {m : Str}
theorem sup_baseC {p0 p1 : Pos} {attr : Str} {whole : Sem Value} {a C : Addr} {ox : Obj} {Q : Value → Shared → Prop} {self : Str} (F : FunS K x qual params body scope file D f fd cda cc) (S : FsScopeC N ps scope) (pf : PF P file) (hm : mg "super" = none)
    (hp : (params.posonlyargs ++ params.args).head?.map (·.arg) = some self) (hN : N[0]? = some self) (hself : scope.names.lookup self = some .local) (hat : (attr == ("__class__" : Str)) = false)
    (I : Inv (cxC CX P w K mg base N qual scope f cda cc A outer s0 H0 E0) pins σ H s) (hσ : σ[0]? = some (some (.ref a))) (hx : s.heap.get? a = some ox) (hxc : ox.cls = .ref C) (hnc : ∀ c, ox.data ≠ .cls c) (hsub : PySem.W.mroIn K C (.ref D) = some true)
    (h : ∀ h', h'.get? s.heap.objs.size = some { cls := .type "super", dict := none, data := .fields #[.ref D, .ref a, .ref C], slots := #[] } → (∀ y o, s.heap.get? y = some o → h'.get? y = some o) → Q (.ref s.heap.objs.size) { s with heap := h' }) :
    _root_.PySem.wpAt (model P w) (A.deeper (scEnv qual scope s0.heap.objs.size f (.ref cda) cc)) (.func fb (scEnv qual scope s0.heap.objs.size f (.ref cda) cc)) (attributeBase (.Call (.Name "super" p0) [] [] p1) attr (scEnv qual scope s0.heap.objs.size f (.ref cda) cc) whole) Q E s := by
  obtain ⟨oc, od, kV, doc, pm, an, ct, osl, rfl, lk⟩ := F.fn
  obtain ⟨cl, cld, csl, hcell⟩ := F.cell
  obtain ⟨ccl, cdd, vs, ccs, tf, hcode, hvs⟩ := F.code
  obtain ⟨cdD, hD⟩ := Option.isSome_iff_exists.mp F.cls
  have kin : K.In s.heap := I.kIn
  obtain ⟨ar, har, hara⟩ : ∃ ar, (params.posonlyargs ++ params.args).head? = some ar ∧ ar.arg = self := by
    cases q : (params.posonlyargs ++ params.args).head? with
    | none => rw [q] at hp; cases hp
    | some ar => rw [q] at hp; exact ⟨ar, rfl, Option.some.inj hp⟩
  obtain ⟨oD, hD1, hD2⟩ : ∃ oD, s.heap.get? D = some oD ∧ oD.data = .cls cdD := by
    unfold PySem.W.clsIn at hD
    split at hD
    · rename_i c d cd' sl ho
      cases hD
      exact ⟨_, kin _ _ ho, rfl⟩
    · cases hD
  refine ks_wpAt_super_base (env := scEnv qual scope s0.heap.objs.size f (.ref cda) cc) S.sup S.cls hat rfl (kin _ _ lk) rfl har rfl (kin _ _ hcode) rfl hvs pf.file pf.top ?_
  obtain ⟨mb, b1, b2⟩ := I.mod.blt
  refine PySem.W.ks_loadName_global S.kind S.sup (Calls.loadGlobal_builtin (env := scEnv qual scope s0.heap.objs.size f (.ref cda) cc) (I.mod.glob.keeps I.bk) hm (b1.keeps I.bk) ((b2 _ (by decide +kernel)).trans (show bootBuiltins ("super" : Str) = some (.type "super") by decide +kernel)) ⟨rfl, ?_⟩)
  refine wpAny_loadName_free S.kind S.cls (sc_cls S.ncl) ⟨_, kin _ _ hcell, rfl⟩ ?_
  obtain ⟨m, hns, hlk⟩ := I.loc
  obtain ⟨u, ru, look⟩ := hlk 0 self (.ref a) hN hσ (.inl hself)
  obtain rfl : u = Value.ref a := ru
  have hmv : m ar.arg = some (.ref a) := by
    rw [hara]
    rcases look with ⟨_, q⟩ | ⟨q | q, _⟩
    · exact q
    · have q' : scope.names.lookup self = some .cell := q
      rw [hself] at q'; cases q'
    · have q' : scope.names.lookup self = some .free := q
      rw [hself] at q'; cases q'
  refine wpAny_loadName_local S.kind (show scope.names.lookup ar.arg = some .local by rw [hara]; exact hself) hns hmv ?_
  obtain ⟨hh, g, d, t, os⟩ := s
  refine ks_wpAny_isType_cls hD1 hD2 ⟨rfl, ?_⟩
  exact ks_wpAny_call_super hD1 hD2 hx hxc hnc (PySem.W.looks_mroIn kin hsub) fun h' e k => h h' e k
theorem pea_supMethC {p0 p1 p2 pos : Pos} {e : Expr} {es : List Expr} {ta : TA} {self : Str} {pl : Sem Bool} {E : L2.St → XK} (F : FunS K x qual params body scope file D f fd cda cc) (S : FsScopeC N ps scope) (pf : PF P file) (hm : mg "super" = none)
    (hp : (params.posonlyargs ++ params.args).head?.map (·.arg) = some self) (hN : N[0]? = some self) (hself : scope.names.lookup self = some .local)
    (hl2 : ∃ oc od osl, K.lookup f2 = some ⟨oc, od, .func fd2, osl⟩) (ht2 : PySem.W.typeIn K (.ref f2) = some (.type "function"))
    (F2 : FnOk P w K mg base CX2 k2 f2 fd2 ps2 sp2) (hr : Room k2 (A.deeper (scEnv qual scope s0.heap.objs.size f (.ref cda) cc))) (hb : Binds K fd2 ps2 []) (hx : ∀ σ, PassesAt CX2 (cxC CX P w K mg base N qual scope f cda cc A outer s0 H0 E0) σ (E σ))
    (ha : PA (cxC CX P w K mg base N qual scope f cda cc A outer s0 H0 E0) (e :: es) ta) (hat : (m == ("__class__" : Str)) = false)
    (hev : eval (.Call (.Attribute (.Call (.Name "super" p0) [] [] p1) m p2) (e :: es) [] pos) (scEnv qual scope s0.heap.objs.size f (.ref cda) cc) = (do
      let ov ← attributeBase (.Call (.Name "super" p0) [] [] p1) m (scEnv qual scope s0.heap.objs.size f (.ref cda) cc) (eval (.Call (.Name "super" p0) [] [] p1) (scEnv qual scope s0.heap.objs.size f (.ref cda) cc))
      standAt p2.atName
      let (fn1, first) ← holding [ov] (getMethod ov m pl)
      callWith pos fn1 first (backTo pos (starEach (e :: es) (scEnv qual scope s0.heap.objs.size f (.ref cda) cc))) []) := by rfl)
    (he : starEach (e :: es) (scEnv qual scope s0.heap.objs.size f (.ref cda) cc) = (false, eval e (scEnv qual scope s0.heap.objs.size f (.ref cda) cc)) :: starEach es (scEnv qual scope s0.heap.objs.size f (.ref cda) cc) := by rfl) (hpl : (backTo pos (starEach es (scEnv qual scope s0.heap.objs.size f (.ref cda) cc))).any (·.1) = false := by rfl) :
    PEA (cxC CX P w K mg base N qual scope f cda cc A outer s0 H0 E0) fb (.Call (.Attribute (.Call (.Name "super" p0) [] [] p1) m p2) (e :: es) [] pos) (tSup K D m f2 sp2 E ta) := by
  refine ⟨fun pins s σ H Q I h => ?_⟩
  obtain ⟨a, C, dx, fs, hσ, hH, hsub, hsup, h⟩ := h
  obtain ⟨mA, J, _⟩ := ins_get I.hok hH
  obtain ⟨od, J, _⟩ := J.look
  refine ks_wpAt_MethodCall (sup_baseC F S pf hm hp hN hself hat I hσ J.at_ J.cls (fun c z => ?_) hsub fun h' hso k => ?_) hev
  · have := J.no
    unfold PySem.W.notCls at this
    rw [z] at this
    exact Bool.noConfusion this
  have I1 := I.kept (h' := h') (t' := s.toks) k
  have kin : K.In h' := I1.kIn
  obtain ⟨mA1, J1, _⟩ := ins_get I1.hok hH
  obtain ⟨od1, J1, _⟩ := J1.look
  obtain ⟨oc2, od2, osl2, lk2⟩ := hl2
  have hof := kin _ _ lk2
  have hofc : oc2 = .type "function" := by
    have ht' : (K.lookup f2).map (·.cls) = some (.type "function") := ht2
    rw [lk2] at ht'
    exact Option.some.inj ht'
  cases hc : PySem.W.clsIn K C with
  | none => unfold PySem.W.ks_superIn at hsup; rw [hc] at hsup; cases hsup
  | some cd =>
    unfold PySem.W.ks_superIn at hsup
    rw [hc] at hsup
    obtain ⟨hh, g, d, tk, os⟩ := s
    have I1' : Inv (cxC CX P w K mg base N qual scope f cda cc A outer s0 H0 E0) pins σ H ⟨h', g, d, tk, os⟩ := I1
    refine ks_wpAny_getMethod_super hso (PySem.W.looks_opaque kin F.op) (l₀ := cd.mro) ?_ rfl kin hsup hof hofc (PySem.W.ks_ne kin J1 hc) hat ?_
    · exact fun A Q E s k q => wpAny_bind ((PySem.W.looks_clsIn kin hc) A _ E s k (wpAny_pure q))
    have I2 := I1'.kept (h' := h'.push { cls := .type "method", data := .fields #[.ref f2, .ref a] }) (t' := tk + 1) fun b o z => Heap.get?_push_of_some _ z
    have hq0 : (h'.push { cls := .type "method", data := .fields #[.ref f2, .ref a] }).get? h'.objs.size = some { cls := .type "method", data := .fields #[.ref f2, .ref a] } := Heap.get?_push_at rfl rfl
    have I3 := Inv.pin1 I2 hq0 (.inr trivial) (I1'.hok.fresh (Nat.le_refl _)) (Ne.symm (Nat.ne_of_lt I1'.lt)) (I1'.nofs (Nat.le_refl _)) (fun v z => nomatch z)
    show wpAny _ _ (callWith pos (.ref h'.objs.size) [] (backTo pos (starEach (e :: es) _)) []) _ _ _
    rw [he]
    refine callWith_bound (f2 := f2) (a := a) (by show (false || (backTo pos (starEach es _)).any (·.1)) = false; rw [hpl]; rfl) ?_
    have ra := ha.run pos _ _ σ H _ I3 h
    rw [he] at ra
    refine PySem.Calls.evalArgs_plain (thn ra fun us s3 ⟨vs, H3, J3, rv, q⟩ => ?_)
    obtain ⟨hu, _⟩ := J3.pin (h'.objs.size, { cls := .type "method", data := .fields #[.ref f2, .ref a] }) (List.mem_append_right _ List.mem_cons_self)
    refine ⟨hu, ⟨_, _, J3.kIn _ _ lk2, rfl⟩, ?_⟩
    have r2 : Vals (V.ref a :: vs) (Value.ref a :: us) := .cons rfl rv
    have hl : (Value.ref a :: us ++ []).length = ps2.length := by
      rw [List.append_nil, ← r2.length]
      exact F2.len _ _ _ _ q
    have b2 := hb s3 (Value.ref a :: us) J3.kIn hl
    rw [List.append_nil] at b2
    refine wpAny_call (ks_codeAny_call_bound hu (codeAny_mono (F2.run _ _ s3 H3 ⟨Value.ref a :: us, []⟩ (Value.ref a :: us) (V.ref a :: vs) Q (E σ) hr J3.env0 b2 r2 q) fun r s' hq => ?_))
    cases r with
    | error er => exact hx σ _ H3 s3 er s' J3 hq
    | ok fl =>
      cases fl with
      | ret u =>
        obtain ⟨v, H', I', rv', q'⟩ := J3.after hq
        exact ⟨v, H', I'.pins_of fun p hp => I'.pin p (List.mem_append_right _ (List.mem_cons_of_mem _ hp)), rv', q'⟩
      | next => exact False.elim hq
      | brk => exact False.elim hq
      | cont => exact False.elim hq
end
/-! super().m(..) on an instance that stays -/
theorem e_sup {W : WX} {Γ : Ctx} {M : List Re} {K : PySem.W.Frag} {C D f2 : Addr} {m : Str} {sp : Sp} {ta : TA} {κ : KV} {ε : KX} {fs : FL} (h0 : Γ[0]? = some (some (rIns C fs))) (hm : SupF K C D m f2)
    (h : EA W Γ M ta (fun rs M1 => XM sp (rIns C fs :: rs) M1 κ ε) ε) : EW W Γ M (tSup K D m f2 sp (WE W) ta) κ ε := fun B G H σ o en Q q x => by
  obtain ⟨u, hu1, hu2⟩ := en.get h0
  obtain ⟨a, dx, ws, rfl, h2, h3⟩ := id hu2
  refine ⟨a, C, dx, ws, hu1, o.i _ _ h2, hm.mro, hm.sup, h B G H σ o en _ (fun vs G1 H1 rs M1 z o1 e1 ra => ?_) x⟩
  exact z B G1 H1 _ W σ o1 (.cons ((rIns C fs).mono e1 hu2) ra) Q (q.up e1) (x.up e1)
end Mu

namespace Mu
open PySem PySem.Spec PyProof.Rows L2 He Evl
/-! ### a def that changes what may be changed, or raises: promises by what follows -/
def spC (R : List V → Hp → List Re → KV → KX → Prop) : Sp := fun vs H Q E => ∃ B G M κ ε, Ok B G H M ∧ R vs G M κ ε ∧ Go B G κ Q ∧ ∀ cls fs d G' H' M', ε cls fs M' → Ok B G' H' M' → Ex G G' → XdOk G' fs d → E cls d H'
section
variable {W : WX} {Γ : Ctx} {M : List Re} {rs : List Rp} {K : PySem.W.Frag} {κ : KV} {ε : KX} {R : List V → Hp → List Re → KV → KX → Prop}
theorem xmC (h : ∀ vs G, RA G vs rs → R vs G M κ ε) : XM (spC R) rs M κ ε := fun B G H vs W σ o ra Q q x =>
  ⟨B, G, M, κ, ε, o, h vs G ra, q, fun cls fs d G' H' M' z o' e xd => x cls fs d G' H' M' z o' e xd⟩
theorem spC_E : ∀ vs H Q E', spC R vs H Q E' → ∀ E2 : XK, (∀ c d H', E' c d H' → E2 c d H') → spC R vs H Q E2 := fun vs H Q E' h E2 hi => by
  obtain ⟨B, G, M, κ, ε, h1, h2, h3, h4⟩ := h
  exact ⟨B, G, M, κ, ε, h1, h2, h3, fun cls xs d G2 H2 M' z o e x => hi _ _ _ (h4 cls xs d G2 H2 M' z o e x)⟩
theorem cmC (h : ∀ vs G, RA G vs rs → R vs G M κ (fun _ _ _ => False)) : CM (spC R) rs M κ := cmo_ (xmC h) spC_E
theorem run_C {t : TS} {B : Ba} {G H : Hp} {σ : L2.St} {Q : VK} {E : XK} (w : WP (fun cls d _ H => E cls d H) Γ M t { nx := fun _ M' => κ (rV .non) M', rt := κ, ex := fun _ cls fs M' => ε cls fs M' }) (o : Ok B G H M) (en : En σ G Γ) (k1 : Go B G κ Q) (k2 : ∀ cls fs d G' H' M', ε cls fs M' → Ok B G' H' M' → Ex G G' → XdOk G' fs d → E cls d H') : t { nx := fun _ H' => Q .non H', rt := Q } σ H := by
  refine w (B.low G) G H σ _ (o.low (Ex.refl _)) en ⟨fun σ' G' H' Γ' M' o' en' z => k1 .non G' H' (rV .non) M' z (o'.up o.l) o'.l rfl, fun v G' H' r M' o' hv z => k1 v G' H' r M' z (o'.up o.l) o'.l hv, fun _ _ _ _ _ _ _ z => z.elim, fun _ _ _ _ _ _ _ z => z.elim, fun σ' G' H' Γ' M' cls d fs o' en' xd z => k2 cls fs d G' H' M' z (o'.up o.l) o'.l xd⟩
end
/-! ### a property, the class found by the data -/
def tPropD (K : PySem.W.Frag) (f : Str) (g : Addr) (sp : Sp) (E : XK) (ta : TE) : TE := fun σ H Q => ta σ H fun x H1 => ∃ a C dx fs, x = .ref a ∧ H1 a = some (.ins C dx fs) ∧ Cls K C ∧ PropG K C f g ∧ sp [.ref a] H1 Q E
theorem pe_propD {X : Cx} {CX : CXT} {k : Nat} {g : Addr} {f : Str} {fd : FuncData} {ps : List Str} {sp : Sp} {E : XK} {e : Expr} {pos : Pos} {ta : TE} (he : PE X e ta) (K : PySem.W.Frag) (F : FnOk X.prog X.w X.K X.mg X.base CX k g fd ps sp) (hr : Room (k + 1) X.A) (hb : Binds X.K fd ps []) (hx : Passes CX X.nox E) (hK : X.K = K := by rfl)
    (hab : attributeBase e f X.env (eval e X.env) = eval e X.env := by rfl) : PE X (.Attribute e f pos) (tPropD K f g sp E ta) := by
  subst hK
  refine ⟨fun pins s σ H Q I h => ?_⟩
  refine attr_of hab (thn (he.run pins s σ H _ I h) fun u s1 ⟨x, H1, I1, rx, a, C, dx, fs, ex, ea, c, hp, q⟩ => ?_)
  subst ex
  obtain rfl : u = Value.ref a := rx
  obtain ⟨p, hp⟩ := hp
  exact getprop_ok I1 ea c hp F hr hb .nil hx q
theorem e_propD {W : WX} {Γ : Ctx} {M : List Re} {te : TE} {f : Str} {g : Addr} {K : PySem.W.Frag} {sp : Sp} {E : XK} {κ : KV} {ε : KX} (h : EW W Γ M te (fun r0 M0 => (∃ C, Cls K C ∧ PropG K C f g ∧ ∀ v G, r0.p v G → ∃ a dx fs, v = .ref a ∧ G a = some (.ins C dx fs)) ∧ CM sp [r0] M0 κ) ε) : EW W Γ M (tPropD K f g sp E te) κ ε := fun B G H σ o en Q q x =>
  h B G H σ o en _ (fun v0 G0 H0 r0 M0 h0 o0 e0 hv0 => by
    obtain ⟨⟨C, c1, c2, hi⟩, h1⟩ := h0
    obtain ⟨a, dx, fs, rfl, h2⟩ := hi _ _ hv0
    exact ⟨a, C, dx, fs, rfl, o0.i _ _ h2, c1, c2, h1 E B G0 H0 [.ref a] o0 (.cons hv0 .nil) Q (q.up e0)⟩) x
/-! ### isinstance of an instance, by what the class's bases are -/
section
variable {K : PySem.W.Frag} {C D : Addr} {H G : Hp} {fs : FL} {Γ : Ctx} {te ta tb : TE} {tt : TT} {r : Rp} {W : WX} {M : List Re} {κ : KV} {ε : KX} {rs : List Rp} {p : Addr} {k : Nat}
theorem ty_ins (c : IsC K C) {v : V} (h : (rIns C fs).p v H) : TyX K H v (.ref C) := by
  obtain ⟨a, dx, ws, rfl, h2, _⟩ := h
  exact .base (.ins h2 c.c c.a c.g c.t c.m)
theorem x_isIns {b : Bool} (c : IsC K C) (hk : PySem.W.kitOne K (.ref C) (.ref D) = some b) (h : EvX Γ te (rIns C fs)) : EvX Γ (tCB (rIsi K) (tCons te (tCons (tC (.ref D)) tNil))) (rB b) := fun σ G en => Ev.d (ev_isi (h σ G en) (.own _) fun v H hv => ⟨_, ty_ins c hv, hk⟩)
/-! a if t else b -/
theorem x_ifE {c : Bool} (ht : EvTX Γ tt c) (h1 : c = true → EvX Γ ta r) (h2 : c = false → EvX Γ tb r) : EvX Γ (tIf tt ta tb) r := fun σ G en H e Q q => ht σ G en H e _ fun H1 e1 => by
  cases c with
  | true =>
    show ta σ H1 Q
    exact h1 rfl σ G en H1 (e.trans e1) Q fun v G2 H2 g hv => q v G2 H2 ⟨g.g, fun a o z => g.h a o (e1 a o z), g.i, fun a o z y => g.n a o (e1 a o z) y⟩ hv
  | false =>
    show tb σ H1 Q
    exact h2 rfl σ G en H1 (e.trans e1) Q fun v G2 H2 g hv => q v G2 H2 ⟨g.g, fun a o z => g.h a o (e1 a o z), g.i, fun a o z y => g.n a o (e1 a o z) y⟩ hv
theorem e_ifE (h : ET W Γ M tt (fun c M' => (c = true → EW W Γ M' ta κ ε) ∧ (c = false → EW W Γ M' tb κ ε)) ε) : EW W Γ M (tIf tt ta tb) κ ε := fun B G H σ o en Q q x =>
  h B G H σ o en _ (fun c G' H' M' z o' e' => by
    cases c with
    | true =>
      show ta σ H' Q
      exact z.1 rfl B G' H' σ o' (en.mono e') Q (q.up e') (x.up e')
    | false =>
      show tb σ H' Q
      exact z.2 rfl B G' H' σ o' (en.mono e') Q (q.up e') (x.up e')) x
/-- list(xs) of a list of our own -/
theorem am_listOwn (k : Nat) (hk : M[k]? = some (lstR p rs)) (kk : κ (rL K rs) M) : AM (rListS K) [rV (.ref p)] M κ := fun B G H vs o ra Q q => by
  obtain ⟨x, rfl, hx⟩ := ra1 ra
  obtain rfl : x = V.ref p := hx
  obtain ⟨ws, h1, h2⟩ := o.m _ (List.mem_of_getElem? hk)
  refine ⟨p, ws, rfl, .inl (sq_of h1), fun l hl => ?_⟩
  have g := Gr.new (o := .lst ws) o.i hl
  exact q _ _ _ (rL K rs) M kk (o.gr g) g.g ⟨l, ws, rfl, upd_same, h2.mono g.g⟩
end
/-- for over a range whose bound is read from our own lists -/
theorem w_forRB {α : Type} {κ : Kn} {tu : TS} {Γ Γ' : Ctx} {M : List Re} {W : WX} {ta : TE} {j : Nat} (n : Nat) (P : Nat → α → Prop) (Γi : Nat → α → Ctx) (Mi : Nat → α → List Re) (hb : BorC M Γ Γ') (h : EvX Γ' ta (nI n)) (hn : n ≤ 100000) (a0 : α) (p0 : P 0 a0) (s0 : Sub Γ (Γi 0 a0)) (m0 : M = Mi 0 a0)
    (hs : ∀ i a, i < n → P i a → WP W ((Γi i a).set j (some (nI i))) (Mi i a) tu (kLoop (LI P Γi Mi (i + 1)) κ)) (hd : ∀ a, P n a → κ.nx (Γi n a) (Mi n a)) : WP W Γ M (tFor (iRng1 (tCons ta tNil)) (gName j) tu) κ := fun B G H σ D o en d => by
  refine Mu.s_forR n (bor_i (M := M) o.i) (ea_cons (EvD.ev (h σ _ (hb B G H σ o en))) ea_nil) hn (fun i σ' H' => ∃ G Γ M, Ok B G H' M ∧ En σ' G Γ ∧ LI P Γi Mi i Γ M) (fun H1 e => ⟨G, Γ, M, o.ex e, en, a0, p0, s0, m0⟩) (fun i σ' H' hi ⟨G1, Γ1, M1, o1, en1, a, pa, sa, ma⟩ => ?_) (fun σ' H' ⟨G1, Γ1, M1, o1, en1, a, pa, sa, ma⟩ => ?_)
  · subst ma
    exact hs i a hi pa B G1 H' _ _ o1 ((en1.weak sa).set (r := nI i) rfl j) d.loop
  · subst ma
    exact d.nx _ G1 H' _ _ o1 (en1.weak sa) (hd a pa)
theorem x_lenLm' {Γ : Ctx} {te : TE} {K : PySem.W.Frag} {rs : List Rp} (h : EvX Γ te (rL K rs)) : EvX Γ (tCB (rLenS K) (tCons te tNil)) (nI rs.length) := x_lenL h
/-! ### data as a whole -/
mutual
theorem eqv_refl : ∀ d : PyData, d.canLay0 = true → PyData.eqv d d = true
  | .none, _ => by simp [PyData.eqv]
  | .bool b, _ => by simp [PyData.eqv]
  | .int i, _ => by simp [PyData.eqv]
  | .str s, _ => by simp [PyData.eqv]
  | .list xs, h => by
    unfold PyData.canLay0 at h
    rw [PyData.eqv]
    exact eqvAll_refl xs h
  | .tuple xs, h => by
    unfold PyData.canLay0 at h
    rw [PyData.eqv]
    exact eqvAll_refl xs h
  | .dict _, h => by
    unfold PyData.canLay0 at h
    cases h
theorem eqvAll_refl : ∀ ds : List PyData, PyData.canLayAll0 ds = true → PyData.eqvAll ds ds = true
  | [], _ => by simp [PyData.eqvAll]
  | d :: ds, h => by
    unfold PyData.canLayAll0 at h
    obtain ⟨h1, h2⟩ := Bool.and_eq_true_iff.mp h
    rw [PyData.eqvAll, eqv_refl d h1, eqvAll_refl ds h2]; rfl
end
/-- r stands for the data d, of depth k at most -/
structure Dt (K : PySem.W.Frag) (k : Nat) (r : Rp) (d : PyData) : Prop where
  as : AsD K r d
  sh : Sh k d
section
variable {K : PySem.W.Frag} {k j : Nat} {r : Rp} {d d1 d2 : PyData} {rs : List Rp} {ds : List PyData} {α : Type} {ρ : α → Rp} {δ : α → PyData} {Γ : Ctx} {ta tb : TE}
theorem dt_int (i : Int) : Dt K 1 (rI i) (.int i) := ⟨asd_int i, sh_int i⟩
theorem dt_n (n : Nat) : Dt K 1 (nI n) (.int (n : Int)) := dt_int _
theorem dt_b (b : Bool) : Dt K 1 (rB b) (.bool b) := ⟨asd_bl b, by unfold PyData.canLay0; rfl, by unfold PyData.depth; omega⟩
theorem dt_non : Dt K 1 (rV .non) .none := ⟨asd_non, by unfold PyData.canLay0; rfl, by unfold PyData.depth; omega⟩
theorem dt_s {s : Str} (h : (PyData.str s).canLay0 = true) : Dt K 1 (rS s) (.str s) := ⟨asd_str s, h, by unfold PyData.depth; omega⟩
theorem dt_up (h : Dt K j r d) (hk : j ≤ k) : Dt K k r d := ⟨h.as, h.sh.mono hk⟩
theorem dt_l (h : ∀ a, Dt K k (ρ a) (δ a)) (l : List α) : Dt K (k + 1) (rL K (l.map ρ)) (.list (l.map δ)) := ⟨asd_list (fun a => (h a).as) l, sh_list (fun a => (h a).sh) l⟩
theorem dt_t (h : ∀ a, Dt K k (ρ a) (δ a)) (l : List α) : Dt K (k + 1) (rT K (l.map ρ)) (.tuple (l.map δ)) := ⟨asd_tup (fun a => (h a).as) l, sh_tup (fun a => (h a).sh) l⟩
theorem dt_all (h : Paired (Dt K k) rs ds) : (∀ {H : Hp} {vs : List V}, RA H vs rs → DpAll K H vs ds) ∧ PyData.canLayAll0 ds = true ∧ PyData.depthAll ds ≤ k := by
  induction h with
  | nil => exact ⟨fun h => (by cases h; exact .nil), rfl, Nat.zero_le _⟩
  | cons a t ih =>
    refine ⟨fun h => ?_, ?_, ?_⟩
    · cases h with | cons x y => exact .cons (a.as _ _ x) (ih.1 y)
    · unfold PyData.canLayAll0; rw [a.sh.1, ih.2.1]; rfl
    · unfold PyData.depthAll; exact Nat.max_le.mpr ⟨a.sh.2, ih.2.2⟩
theorem dt_hl (h : Paired (Dt K k) rs ds) : Dt K (k + 1) (rL K rs) (.list ds) := ⟨fun v H q => by
  obtain ⟨a, vs, rfl, h1, h2⟩ := q
  exact .lst (sq_of h1) ((dt_all h).1 h2), by unfold PyData.canLay0; exact (dt_all h).2.1, by
  have := (dt_all h).2.2
  unfold PyData.depth; omega⟩
theorem dt_ht (h : Paired (Dt K k) rs ds) : Dt K (k + 1) (rT K rs) (.tuple ds) := ⟨fun v H q => by
  obtain ⟨a, vs, rfl, h1, h2⟩ := q
  exact .tup h1 ((dt_all h).1 h2), by unfold PyData.canLay0; exact (dt_all h).2.1, by
  have := (dt_all h).2.2
  unfold PyData.depth; omega⟩
theorem dt_ln (l : List Nat) : Dt K 2 (rLn K l) (dLn l) := ⟨asd_ln l, sh_ln l⟩
theorem dt_tn (l : List Nat) : Dt K 2 (rTn K l) (dTn l) := ⟨asd_tn l, sh_tn l⟩
theorem dt_ll (l : List (List Nat)) : Dt K 3 (rLL K l) (dLL l) := ⟨asd_ll l, sh_ll l⟩
theorem dt_p (p : Nat × Nat) : Dt K 2 (rP K p) (dP p) := ⟨asd_p p, sh_p p⟩
theorem dt_li (l : List Int) : Dt K 2 (rLi K l) (.list (l.map .int)) := dt_l dt_int l
/-- both sides stand for the same -/
theorem x_eqS (a1 : Dt K k r d) (hk : k ≤ 64) (ha : EvX Γ ta r) (hb : EvX Γ tb r) : EvX Γ (tOp (rEqD K) ta tb) (rB true) := x_is (x_eqD ha hb a1.as a1.as (a1.sh.ok hk) (a1.sh.ok hk)) (by rw [eqv_refl d a1.sh.1])
theorem x_neS (a1 : Dt K k r d) (hk : k ≤ 64) (ha : EvX Γ ta r) (hb : EvX Γ tb r) : EvX Γ (tOp (rNeD K) ta tb) (rB false) := x_is (x_neD ha hb a1.as a1.as (a1.sh.ok hk) (a1.sh.ok hk)) (by rw [eqv_refl d a1.sh.1]; rfl)
end
end Mu

namespace Mu
open PySem PySem.Spec PyProof.Rows L2 He Evl
/-! ### whatever is walked: by the data of its items -/
structure Itm {β : Type} (G1 : Hp) (J : It) (l : List β) (ρ : β → Rp) : Prop where
  goes : ∀ i H, i < l.length → Ex G1 H → J.go i H
  stops : ∀ H, Ex G1 H → J.stop l.length H
  yld : ∀ i H x H', i < l.length → Ex G1 H → J.yld i H x H' → H' = H ∧ ∀ a, l[i]? = some a → (ρ a).p x G1
def IX {β : Type} (Γ : Ctx) (ti : TI) (l : List β) (ρ : β → Rp) : Prop := ∀ σ G, En σ G Γ → ∀ H, Ex G H → ∀ R : It → Hp → Prop, (∀ G1 H1 J, Gr G H G1 H1 → Itm G1 J l ρ → R J H1) → ti σ H R
section
variable {W : WX} {Γ : Ctx} {M : List Re} {te ta tb tl td : TE} {t : TT} {K : PySem.W.Frag} {i j n : Nat} {vs : List Nat} {β α : Type} {ti : TI} {l : List β} {ρ : β → Rp} {tu : TS} {κ : Kn} {r : Rp}
theorem for_I {J : It} {n : Nat} {g : TG} {tb : TS} {D : Ends} {σ : L2.St} {H : Hp} (Pv : Nat → L2.St → Hp → Prop) (h0 : Pv 0 σ H) (hgo : ∀ i σ H, i < n → Pv i σ H → J.go i H) (hst : ∀ σ H, Pv n σ H → J.stop n H)
    (hs : ∀ i σ H x H', i < n → Pv i σ H → J.yld i H x H' → g x σ H' fun σ2 H2 => tb { D with nx := Pv (i + 1), ct := Pv (i + 1), bk := D.nx } σ2 H2) (hd : ∀ σ H, Pv n σ H → D.nx σ H) :
    ∃ W : Nat → Nat → L2.St → Hp → Prop, (∃ m, W 0 m σ H) ∧ ∀ i m σ H, W i m σ H →
      (J.stop i H ∧ D.nx σ H) ∨ (J.go i H ∧ ∃ N : L2.St → Hp → Prop, (∀ σ' H', N σ' H' → ∃ m', m' < m ∧ W (i + 1) m' σ' H') ∧ ∀ x H', J.yld i H x H' → g x σ H' fun σ2 H2 => tb { D with nx := N, ct := N, bk := D.nx } σ2 H2) := by
  refine ⟨fun i m σ H => m = n - i ∧ i ≤ n ∧ Pv i σ H, ⟨n, by simp, Nat.zero_le _, h0⟩, ?_⟩
  rintro i m σ H ⟨rfl, hi, p⟩
  by_cases c : i < n
  · exact .inr ⟨hgo i σ H c p, Pv (i + 1), fun σ' H' z => ⟨n - (i + 1), by omega, rfl, c, z⟩, fun x H' y => hs i σ H x H' c p y⟩
  · have e : i = n := by omega
    subst e
    exact .inl ⟨hst σ H p, hd σ H p⟩
/-- for x in .. -/
theorem w_forI (P : Nat → α → Prop) (Γi : Nat → α → Ctx) (Mi : Nat → α → List Re) (h : IX Γ ti l ρ) (a0 : α) (p0 : P 0 a0) (s0 : Sub Γ (Γi 0 a0)) (m0 : M = Mi 0 a0)
    (hs : ∀ i a x, l[i]? = some x → P i a → WP W ((Γi i a).set j (some (ρ x))) (Mi i a) tu (kLoop (LI P Γi Mi (i + 1)) κ)) (hd : ∀ a, P l.length a → κ.nx (Γi l.length a) (Mi l.length a)) : WP W Γ M (tFor ti (gName j) tu) κ := fun B G H σ D o en d => by
  refine h σ G en H o.i _ fun G1 H1 J g1 it => ?_
  have o1 := (o.gr g1).low (Ex.refl G1)
  have eb : Ex B.Gl G1 := o.l.trans g1.g
  refine for_I (n := l.length) (fun i σ' H' => Pv (B.low G1) (LI P Γi Mi i) σ' H') ⟨G1, Γ, M, o1, en.mono g1.g, a0, p0, s0, m0⟩ (fun i σ' H' hi ⟨G2, _, _, o2, _⟩ => it.goes i H' hi (o2.l.trans o2.i)) (fun σ' H' ⟨G2, _, _, o2, _⟩ => it.stops H' (o2.l.trans o2.i)) (fun i σ' H' x H'' hi ⟨G2, Γ2, M2, o2, en2, a, pa, sa, ma⟩ y => ?_) (fun σ' H' ⟨G2, Γ2, M2, o2, en2, a, pa, sa, ma⟩ => ?_)
  · obtain ⟨rfl, hx⟩ := it.yld i H' x H'' hi (o2.l.trans o2.i) y
    subst ma
    obtain ⟨b, hb⟩ : ∃ b, l[i]? = some b := ⟨_, List.getElem?_eq_getElem hi⟩
    have d2 := (d.low eb).loop (I := LI P Γi Mi (i + 1))
    exact hs i a b hb pa (B.low G1) G2 _ _ _ o2 ((en2.weak sa).set ((ρ b).mono o2.l (hx b hb)) j) ⟨fun σ G H Γ M o en z => d2.nx σ G H Γ M o en z, d2.rt, d2.bk, fun σ G H Γ M o en z => d2.ct σ G H Γ M o en z, d2.ex⟩
  · subst ma
    exact d.nx _ G2 H' _ _ (o2.up eb) (en2.weak sa) (hd a pa)
theorem lc_I {J : It} {n : Nat} {g : TG} {tt : TT} {te : TE} {vs : List Nat} {σ : L2.St} {H1 : Hp} {D : Addr} {Qd : Hp → Prop} (Pv : Nat → Hp → Prop) (h0 : Pv 0 (upd H1 D (.lst []))) (hgo : ∀ i H, i < n → Pv i H → J.go i H) (hst : ∀ H, Pv n H → J.stop n H)
    (hs : ∀ i H x H', i < n → Pv i H → J.yld i H x H' → g x (wipe σ vs) H' fun σ2 H2 => wipe σ2 vs = wipe σ vs ∧ tt σ2 H2 fun b H3 =>
      if b = true then te σ2 H3 fun y H4 => ∃ acc, H4 D = some (.lst acc) ∧ acc.length < sizeLine ∧ Pv (i + 1) (upd H4 D (.lst (acc ++ [y]))) else Pv (i + 1) H3) (hd : ∀ H, Pv n H → Qd H) :
    ∃ W : Nat → Nat → Hp → Prop, (∃ m, W 0 m (upd H1 D (.lst []))) ∧ ∀ i m H, W i m H →
      (J.stop i H ∧ Qd H) ∨ (J.go i H ∧ ∃ Nx : Hp → Prop, (∀ H', Nx H' → ∃ m', m' < m ∧ W (i + 1) m' H') ∧ ∀ x H', J.yld i H x H' → g x (wipe σ vs) H' fun σ2 H2 => wipe σ2 vs = wipe σ vs ∧ tt σ2 H2 fun b H3 =>
        if b = true then te σ2 H3 fun y H4 => ∃ acc, H4 D = some (.lst acc) ∧ acc.length < sizeLine ∧ Nx (upd H4 D (.lst (acc ++ [y]))) else Nx H3) := by
  refine ⟨fun i m H => m = n - i ∧ i ≤ n ∧ Pv i H, ⟨n, by simp, Nat.zero_le _, h0⟩, ?_⟩
  rintro i m H ⟨rfl, hi, p⟩
  by_cases c : i < n
  · exact .inr ⟨hgo i H c p, Pv (i + 1), fun H' z => ⟨n - (i + 1), by omega, rfl, c, z⟩, fun x H' y => hs i H x H' c p y⟩
  · have e : i = n := by omega
    subst e
    exact .inl ⟨hst H p, hd H p⟩
/-- [.. for x in .. if ..] -/
theorem xn_lcI {f : β → Bool} {rr : β → Rp} (h : IX Γ ti l ρ) (hz : l.length ≤ 40000) (ht : ∀ a, a ∈ l → EvTX ((wipeC Γ vs).set j (some (ρ a))) t (f a)) (he : ∀ a, a ∈ l → f a = true → EvX ((wipeC Γ vs).set j (some (ρ a))) te (rr a)) (hj : j ∈ vs) : EvNX Γ (tLc ti (gName j) t te vs) ((l.filter f).map rr) := fun σ G en H0 e Q q => by
  refine h σ G en H0 e _ fun G1 H1 J g1 it Dl hD => ?_
  refine lc_I (n := l.length) (fun i H' => Cm G1 H1 Dl (((l.take i).filter f).map rr) H') (cm_start g1.i hD) (fun i H' hi p => ?_) (fun H' p => ?_) (fun i H' x H'' hi p y => ?_) (fun H' p => ?_)
  · obtain ⟨_, G', ws, g, _, _, _⟩ := p
    exact it.goes i H' hi (g.g.trans g.i)
  · obtain ⟨_, G', ws, g, _, _, _⟩ := p
    exact it.stops H' (g.g.trans g.i)
  · have ex : Ex G1 H' := by
      obtain ⟨_, G', ws, g, _, _, _⟩ := id p
      exact g.g.trans g.i
    obtain ⟨rfl, hx⟩ := it.yld i H' x H'' hi ex y
    obtain ⟨b, hb⟩ : ∃ b, l[i]? = some b := ⟨_, List.getElem?_eq_getElem hi⟩
    have hm : b ∈ l := List.mem_of_getElem? hb
    exact ⟨wipe_turn σ hj _, cm_step hb hz p (fun G2 e1 e2 => ht b hm _ G2 (en_at (en.mono (g1.g.trans e1)) ((ρ b).mono e1 (hx b hb)))) (fun hf G2 e1 e2 => he b hm hf _ G2 (en_at (en.mono (g1.g.trans e1)) ((ρ b).mono e1 (hx b hb))))⟩
  · obtain ⟨p1, G', ws, g, hG, hD', ra⟩ := p
    rw [List.take_length] at ra
    exact q Dl ws G' H' (g1.trans g) (fresh_back g1.h p1) hG hD' ra
theorem xn_lcI0 {rr : β → Rp} (h : IX Γ ti l ρ) (hz : l.length ≤ 40000) (he : ∀ a, a ∈ l → EvX ((wipeC Γ vs).set j (some (ρ a))) te (rr a)) (hj : j ∈ vs) : EvNX Γ (tLc ti (gName j) tYes te vs) (l.map rr) := xn_is (xn_lcI (f := fun _ => true) h hz (fun _ _ => t_yes) (fun a ha _ => he a ha) hj) filter_yes
theorem e_lcI {f : β → Bool} {rr : β → Rp} {κ : KV} {ε : KX} (K : PySem.W.Frag) (h : IX Γ ti l ρ) (hz : l.length ≤ 40000) (ht : ∀ a, a ∈ l → EvTX ((wipeC Γ vs).set j (some (ρ a))) t (f a)) (he : ∀ a, a ∈ l → f a = true → EvX ((wipeC Γ vs).set j (some (ρ a))) te (rr a)) (hj : j ∈ vs) (k : κ (rL K ((l.filter f).map rr)) M) : EW W Γ M (tLc ti (gName j) t te vs) κ ε := e_xn K (xn_lcI h hz ht he hj) k
theorem e_lcI0 {rr : β → Rp} {κ : KV} {ε : KX} (K : PySem.W.Frag) (h : IX Γ ti l ρ) (hz : l.length ≤ 40000) (he : ∀ a, a ∈ l → EvX ((wipeC Γ vs).set j (some (ρ a))) te (rr a)) (hj : j ∈ vs) (k : κ (rL K (l.map rr)) M) : EW W Γ M (tLc ti (gName j) tYes te vs) κ ε := e_xn K (xn_lcI0 h hz he hj) k
/-! what is walked -/
theorem ix_L (h : EvX Γ tl (rL K (l.map ρ))) : IX Γ (iList K tl) l ρ := fun σ G en H e R q => h σ G en H e _ fun v G1 H1 g1 ⟨a, ws, hv, h1, h2⟩ => by
  subst hv
  have el : ws.length = l.length := by rw [h2.len, List.length_map]
  refine ⟨a, rfl, ⟨ws, sq_of (g1.i _ _ h1)⟩, q G1 H1 _ g1 ⟨fun i H' hi ex => ?_, fun H' ex => ⟨ws, sq_of (ex _ _ h1), by omega⟩, fun i H' x H'' hi ex y => ?_⟩⟩
  · exact ⟨ws, ws[i]'(by omega), sq_of (ex _ _ h1), List.getElem?_eq_getElem (by omega)⟩
  · obtain ⟨y1, y2⟩ := y
    refine ⟨y1, fun b hb => ?_⟩
    obtain ⟨r, hr, hx⟩ := h2.getV (y2 ws (sq_of (ex _ _ h1)))
    rw [List.getElem?_map, hb] at hr
    cases hr
    exact hx
end
/-! ### texts -/
def ltr (c : Nat) : Str := ⟨#[c]⟩
abbrev rC (c : Nat) : Rp := rV (.str (ltr c))
section
variable {W : WX} {Γ : Ctx} {M : List Re} {te ta tb tl td : TE} {K : PySem.W.Frag} {n c : Nat} {s z : Str} {r : Rp} {κ : KV} {ε : KX}
theorem ix_S (h : EvX Γ te (rV (.str s))) : IX Γ (iStr te) s.cps.toList rC := fun σ G en H e R q => h σ G en H e _ fun v G1 H1 g1 hv => by
  obtain rfl : v = V.str s := hv
  refine ⟨s, rfl, q G1 H1 _ g1 ⟨fun i H' hi ex => ?_, fun H' ex => ?_, fun i H' x H'' hi ex y => ?_⟩⟩
  · show i < s.cps.size
    simpa using hi
  · show s.cps.size ≤ s.cps.toList.length
    simp
  · obtain ⟨y1, c, y2, rfl⟩ := y
    refine ⟨y1, fun b hb => ?_⟩
    have : b = c := by
      have e2 : s.cps.toList[i]? = some c := by simpa using y2
      rw [e2] at hb
      exact (Option.some.inj hb).symm
    rw [this]; rfl
def rInS : R2 := fun x y H Q => ∃ i j, x = .str i ∧ y = .str j ∧ Q (.bl (!(Builtin.Str.occurrences j i 0 j.length 1).isEmpty)) H
def rNotInS : R2 := fun x y H Q => ∃ i j, x = .str i ∧ y = .str j ∧ Q (.bl (!(!(Builtin.Str.occurrences j i 0 j.length 1).isEmpty))) H
def rLtS : R2 := fun x y H Q => ∃ i j, x = .str i ∧ y = .str j ∧ Q (.bl (decide (i.cps.toList < j.cps.toList))) H
def rAddT : R2 := fun x y H Q => ∃ i j, x = .str i ∧ y = .str j ∧ i.length + j.length ≤ sizeLine ∧ Q (.str (i ++ j)) H
def rLenT : List V → Hp → VK → Prop := fun xs H Q => ∃ z, xs = [.str z] ∧ z.length ≤ sizeLine ∧ Q (.int z.length) H
def rFind : V → List V → Hp → VK → Prop := fun x xs H Q => ∃ a b, x = .str a ∧ xs = [.str b] ∧ Q (.int (Txt.find a b)) H
theorem op_inS {X : Cx} : OpR X (compareOp .In) rInS := op_in_str
theorem op_notInS {X : Cx} : OpR X (compareOp .NotIn) rNotInS := op_notin_str
theorem op_ltS {X : Cx} : OpR X (compareOp .Lt) rLtS := op_lt_str
theorem op_addT {X : Cx} : OpR X (binaryOp .Add) rAddT := op_add_str
theorem call_lenT {X : Cx} : CallR X (.builtin "len") rLenT := call_len_str
theorem mt_findT {X : Cx} : MtR X "str.find" rFind := mt_find
def inS (i j : Str) : Bool := !(Builtin.Str.occurrences j i 0 j.length 1).isEmpty
theorem x_inS (ha : EvX Γ ta (rV (.str s))) (hb : EvX Γ tb (rV (.str z))) : EvX Γ (tOp rInS ta tb) (rB (inS s z)) := fun σ G en => Ev.d (ev_op2 (ha σ G en) (hb σ G en) fun x y H hx hy Q q => by
  obtain rfl : x = V.str s := hx
  obtain rfl : y = V.str z := hy
  exact ⟨s, z, rfl, rfl, q⟩)
theorem x_niS (ha : EvX Γ ta (rV (.str s))) (hb : EvX Γ tb (rV (.str z))) : EvX Γ (tOp rNotInS ta tb) (rB (!inS s z)) := fun σ G en => Ev.d (ev_op2 (ha σ G en) (hb σ G en) fun x y H hx hy Q q => by
  obtain rfl : x = V.str s := hx
  obtain rfl : y = V.str z := hy
  exact ⟨s, z, rfl, rfl, q⟩)
theorem x_ltS (ha : EvX Γ ta (rV (.str s))) (hb : EvX Γ tb (rV (.str z))) : EvX Γ (tOp rLtS ta tb) (rB (decide (s.cps.toList < z.cps.toList))) := fun σ G en => Ev.d (ev_op2 (ha σ G en) (hb σ G en) fun x y H hx hy Q q => by
  obtain rfl : x = V.str s := hx
  obtain rfl : y = V.str z := hy
  exact ⟨s, z, rfl, rfl, q⟩)
theorem x_addT (ha : EvX Γ ta (rV (.str s))) (hb : EvX Γ tb (rV (.str z))) (hl : s.length + z.length ≤ 100000) : EvX Γ (tOp rAddT ta tb) (rV (.str (s ++ z))) := fun σ G en => Ev.d (ev_op2 (ha σ G en) (hb σ G en) fun x y H hx hy Q q => by
  obtain rfl : x = V.str s := hx
  obtain rfl : y = V.str z := hy
  exact ⟨s, z, rfl, rfl, sz_of hl, q⟩)
theorem x_ixS (ha : EvX Γ ta (rV (.str s))) (hb : EvX Γ tb (nI n)) (hl : s.length ≤ 100000) (hc : s.cps.toList[n]? = some c) : EvX Γ (tOp rIxS ta tb) (rC c) := fun σ G en => Ev.d (ev_op2 (ha σ G en) (hb σ G en) fun x y H hx hy Q q => by
  obtain rfl : x = V.str s := hx
  obtain rfl : y = V.int (n : Int) := hy
  exact ⟨s, _, c, rfl, rfl, sz_of hl, atI_nat hc, q⟩)
theorem am_lenT (hl : s.length ≤ 100000) (k : κ (nI s.length) M) : AM rLenT [rV (.str s)] M κ := fun B G H vs o ra Q q => by
  obtain ⟨x, rfl, hx⟩ := ra1 ra
  obtain rfl : x = V.str s := hx
  exact ⟨s, rfl, sz_of hl, q _ G H _ M k o (Ex.refl _) rfl⟩
theorem e_find (h : EW W Γ M te (fun r1 M1 => ∃ a, r1 = rV (.str a) ∧ EW W Γ M1 ta (fun r2 M2 => ∃ b, r2 = rV (.str b) ∧ κ (rI (Txt.find a b)) M2) ε) ε) : EW W Γ M (tBM K "str" rFind te (tCons ta tNil)) κ ε := fun B G H σ o en Q q x =>
  h B G H σ o en _ (fun v1 G1 H1 r1 M1 h1 o1 e1 hv1 => by
    obtain ⟨a, rfl, h2⟩ := h1
    obtain rfl : v1 = V.str a := hv1
    refine ⟨?_, h2 B G1 H1 σ o1 (en.mono e1) _ (fun v2 G2 H2 r2 M2 h3 o2 e2 hv2 => ?_) (x.up e1)⟩
    · exact rfl
    · obtain ⟨b, rfl, k⟩ := h3
      obtain rfl : v2 = V.str b := hv2
      exact ⟨a, b, rfl, rfl, q _ G2 H2 _ M2 k o2 (e1.trans e2) rfl⟩) x
end
end Mu

namespace Mu
open PySem PySem.Spec PyProof.Rows L2 He Evl
/-! ### dicts whose keys are texts or numbers -/
section
variable {α : Type}
def valA (kvs : List (Key × α)) (k : Key) : Option α := (kvs.find? fun kv => decide (kv.1 = k)).map (·.2)
def putA (kvs : List (Key × α)) (k : Key) (v : α) : List (Key × α) := if (kvs.any fun kv => decide (kv.1 = k)) = true then kvs.map (fun kv => if kv.1 = k then (kv.1, v) else kv) else kvs ++ [(k, v)]
def dropA (kvs : List (Key × α)) (k : Key) : List (Key × α) := kvs.filter fun kv => decide (kv.1 ≠ k)
end
abbrev DkR (G : Hp) : List (Key × V) → List (Key × Rp) → Prop := Paired fun a b => a.1 = b.1 ∧ b.2.p a.2 G
section
variable {G G' : Hp} {ws : List (Key × V)} {kvs : List (Key × Rp)} {k : Key} {v : V} {r : Rp}
theorem DkR.mono (e : Ex G G') (h : DkR G ws kvs) : DkR G' ws kvs := Paired.mono (fun _ b z => ⟨z.1, b.2.mono e z.2⟩) h
theorem DkR.len (h : DkR G ws kvs) : ws.length = kvs.length := Paired.length h
theorem DkR.keys (h : DkR G ws kvs) : ws.map (·.1) = kvs.map (·.1) := by
  induction h with
  | nil => rfl
  | cons a t ih => rw [List.map_cons, List.map_cons, a.1, ih]
theorem DkR.val (h : DkR G ws kvs) (k : Key) : match valA kvs k with
    | some r => ∃ v, valV ws k = some v ∧ r.p v G
    | none => valV ws k = none := by
  induction h with
  | nil => rfl
  | @cons a b as bs ha t ih =>
    unfold valA valV at ih ⊢
    rw [List.find?_cons, List.find?_cons, ha.1]
    by_cases c : b.1 = k
    · rw [decide_eq_true c]
      exact ⟨a.2, rfl, ha.2⟩
    · rw [decide_eq_false c]
      exact ih
theorem DkR.any (h : DkR G ws kvs) (k : Key) : (ws.any fun kv => decide (kv.1 = k)) = kvs.any fun kv => decide (kv.1 = k) := by
  induction h with
  | nil => rfl
  | cons a t ih => rw [List.any_cons, List.any_cons, a.1, ih]
theorem DkR.repl (h : DkR G ws kvs) (hr : r.p v G) : DkR G (ws.map fun kv => if kv.1 = k then (kv.1, v) else kv) (kvs.map fun kv => if kv.1 = k then (kv.1, r) else kv) := by
  induction h with
  | nil => exact .nil
  | @cons a b as bs ha t ih =>
    refine .cons ?_ ih
    dsimp only
    rw [ha.1]
    by_cases c : b.1 = k
    · rw [if_pos c, if_pos c]; exact ⟨rfl, hr⟩
    · rw [if_neg c, if_neg c]; exact ha
theorem DkR.snoc (h : DkR G ws kvs) (hr : r.p v G) : DkR G (ws ++ [(k, v)]) (kvs ++ [(k, r)]) := by
  induction h with
  | nil => exact .cons ⟨rfl, hr⟩ .nil
  | cons a t ih => exact .cons a ih
theorem DkR.put (h : DkR G ws kvs) (hr : r.p v G) : DkR G (putK ws k v) (putA kvs k r) := by
  unfold putK putA
  rw [h.any k]
  split
  · exact h.repl hr
  · exact h.snoc hr
theorem DkR.drop (h : DkR G ws kvs) : DkR G (dropK ws k) (dropA kvs k) := by
  unfold dropK dropA
  induction h with
  | nil => exact .nil
  | @cons a b as bs ha t ih =>
    rw [List.filter_cons, List.filter_cons, ha.1]
    split
    · exact .cons ha ih
    · exact ih
end
/-- a dict that stays; z: it is locked, so that it may be walked -/
def rD (z : Bool) (kvs : List (Key × Rp)) : Rp := ⟨fun v G => ∃ d ws, v = .ref d ∧ ((∃ o, G d = some (.frz o (.dK ws))) ∨ (z = false ∧ G d = some (.dK ws))) ∧ DkR G ws kvs, fun e ⟨d, ws, h1, h2, h3⟩ => ⟨d, ws, h1, h2.imp (fun ⟨o, q⟩ => ⟨o, e _ _ q⟩) (fun q => ⟨q.1, e _ _ q.2⟩), h3.mono e⟩⟩
/-- of our own -/
def dicR (p : Addr) (kvs : List (Key × Rp)) : Re where
  own := true
  ft := [p]
  p := fun G H => ∃ ws, H p = some (.dK ws) ∧ DkR G ws kvs
  mono := fun e ⟨ws, h1, h2⟩ => ⟨ws, h1, h2.mono e⟩
  loc := fun k ⟨ws, h1, h2⟩ => ⟨ws, k p (List.mem_singleton.mpr rfl) _ h1, h2⟩
  at_ := fun ⟨ws, h1, _⟩ a ha => by rw [List.mem_singleton.mp ha]; exact ⟨_, h1⟩
def rDGet : R2 := fun x y H Q => ∃ a v, x = .ref a ∧ DGet H a y (some v) ∧ Q v H
def rDIn : R2 := fun y x H Q => ∃ a o, x = .ref a ∧ DGet H a y o ∧ Q (.bl o.isSome) H
def rDNotIn : R2 := fun y x H Q => ∃ a o, x = .ref a ∧ DGet H a y o ∧ Q (.bl (!o.isSome)) H
def rLenD : List V → Hp → VK → Prop := fun xs H Q => ∃ a kvs, xs = [V.ref a] ∧ Rd H a (.dK kvs) ∧ Q (.int kvs.length) H
section
variable {X : Cx} {o i : Expr} {pos : Pos} {td ty : TE}
theorem pe_dgetT (hu : X.A.units + 1 < cLine) (ho : PE X o td) (hi : PE X i ty) (hs : NoSl i) : PE X (.Subscript o i pos) (tOp rDGet td ty) := pe_dget hu ho hi hs
theorem pe_dinT (hu : X.A.units + 1 < cLine) (hi : PE X i ty) (ho : PE X o td) (h1 : behindInMarks .In o = false := by rfl) : PE X (.Compare i [.In] [o] pos) (tOp rDIn ty td) := pe_cmp (pc_din hu hi ho) h1
theorem pe_dniT (hu : X.A.units + 1 < cLine) (hi : PE X i ty) (ho : PE X o td) (h1 : behindInMarks .NotIn o = false := by rfl) : PE X (.Compare i [.NotIn] [o] pos) (tOp rDNotIn ty td) := pe_cmp (pc_dnotin hu hi ho) h1
theorem pt_dinT (hu : X.A.units + 1 < cLine) (hi : PE X i ty) (ho : PE X o td) (h1 : behindInMarks .In o = false := by rfl) : PT X (.Compare i [.In] [o] pos) (tB (tOp rDIn ty td)) := pt_cmp (pc_din hu hi ho) h1
theorem pt_dniT (hu : X.A.units + 1 < cLine) (hi : PE X i ty) (ho : PE X o td) (h1 : behindInMarks .NotIn o = false := by rfl) : PT X (.Compare i [.NotIn] [o] pos) (tB (tOp rDNotIn ty td)) := pt_cmp (pc_dnotin hu hi ho) h1
theorem call_lenDr : CallR X (.builtin "len") rLenD := by
  intro pins s σ H us vs Q I r h
  obtain ⟨a, kvs, rfl, ha, q⟩ := h
  cases r with
  | cons r rr =>
    cases rr
    cases r
    exact d_len I ha fun t s' I' => ⟨.int kvs.length, H, I', ⟨t, rfl⟩, q⟩
end
theorem Ok.chgD {B : Ba} {G H : Hp} {M : List Re} {k : Nat} {p : Addr} {kvs kvs' : List (Key × Rp)} {ws : List (Key × V)} (o : Ok B G H M) (hk : M[k]? = some (dicR p kvs)) (h : DkR G ws kvs') : Ok B G (upd H p (.dK ws)) (M.set k (dicR p kvs')) := by
  have gp : G p = none := o.z p (mem_feet (List.mem_of_getElem? hk) (List.mem_singleton.mpr rfl))
  exact o.chg (R' := dicR p kvs') hk rfl rfl (Ex.refl _) (fun a u z n => by rw [upd_ne fun q => n (List.mem_singleton.mpr q)]; exact z) (Ex.mut o.i gp) (fun _ _ _ y => y) ⟨ws, upd_same, h⟩
section
variable {W : WX} {Γ : Ctx} {M : List Re} {te ta tb tv td : TE} {K : PySem.W.Frag} {n i j idx : Nat} {r : Rp} {κ : KV} {ε : KX} {kvs : List (Key × Rp)} {z : Bool} {k : Key} {p : Addr}
theorem rD_get {v : V} {G H : Hp} (h : (rD z kvs).p v G) (e : Ex G H) : ∃ d ws, v = .ref d ∧ Rd H d (.dK ws) ∧ DkR G ws kvs := by
  obtain ⟨d, ws, rfl, h2, h3⟩ := h
  refine ⟨d, ws, rfl, ?_, h3⟩
  rcases h2 with ⟨o, q⟩ | ⟨_, q⟩
  · exact .inr ⟨o, e _ _ q⟩
  · exact .inl (e _ _ q)
theorem om_dget (hv : valA kvs k = some r) (kk : κ r M) : OM rDGet (rD z kvs) (rV (kV k)) M κ := fun B G H x y o hx hy Q q => by
  obtain ⟨d, ws, rfl, h2, h3⟩ := rD_get hx o.i
  obtain rfl : y = kV k := hy
  have hh := h3.val k
  rw [hv] at hh
  obtain ⟨v, h4, h5⟩ := hh
  exact ⟨d, v, rfl, .inl ⟨ws, k, h2, rfl, h4.symm⟩, q v G H r M kk o (Ex.refl _) h5⟩
theorem DkR.isSome {G : Hp} {ws : List (Key × V)} (h : DkR G ws kvs) (k : Key) : (valV ws k).isSome = (valA kvs k).isSome := by
  have hh := h.val k
  cases e : valA kvs k with
  | none => rw [e] at hh; rw [hh]; rfl
  | some r => rw [e] at hh; obtain ⟨v, h4, _⟩ := hh; rw [h4]; rfl
theorem om_din (kk : κ (rB (valA kvs k).isSome) M) : OM rDIn (rV (kV k)) (rD z kvs) M κ := fun B G H y x o hy hx Q q => by
  obtain ⟨d, ws, rfl, h2, h3⟩ := rD_get hx o.i
  obtain rfl : y = kV k := hy
  exact ⟨d, _, rfl, .inl ⟨ws, k, h2, rfl, rfl⟩, q _ G H _ M kk o (Ex.refl _) (by rw [h3.isSome k]; rfl)⟩
theorem om_dni (kk : κ (rB (!(valA kvs k).isSome)) M) : OM rDNotIn (rV (kV k)) (rD z kvs) M κ := fun B G H y x o hy hx Q q => by
  obtain ⟨d, ws, rfl, h2, h3⟩ := rD_get hx o.i
  obtain rfl : y = kV k := hy
  exact ⟨d, _, rfl, .inl ⟨ws, k, h2, rfl, rfl⟩, q _ G H _ M kk o (Ex.refl _) (by rw [h3.isSome k]; rfl)⟩
theorem am_lenD (kk : κ (nI kvs.length) M) : AM rLenD [rD z kvs] M κ := fun B G H vs o ra Q q => by
  obtain ⟨x, rfl, hx⟩ := ra1 ra
  obtain ⟨d, ws, rfl, h2, h3⟩ := rD_get hx o.i
  exact ⟨d, ws, rfl, h2, q _ G H _ M kk o (Ex.refl _) (by rw [h3.len]; rfl)⟩
/-! our own -/
theorem e_dnew (kk : ∀ p, κ (rV (.ref p)) (M ++ [dicR p []])) : EW W Γ M tDNewK κ ε := fun B G H σ o en Q q x p hp => by
  have gp := fresh_back o.i hp
  have g3 := Gr.out (o := .dK []) o.i hp
  exact q (.ref p) _ _ (rV (.ref p)) _ (kk p) (o.add (R := dicR p []) g3 (show [p].Nodup by simp) (fun a ha => by rw [List.mem_singleton.mp ha]; exact ⟨hp, gp⟩) ⟨[], upd_same, .nil⟩) (Ex.refl _) rfl
theorem om_dgetO (idx : Nat) (hk : M[idx]? = some (dicR p kvs)) (hv : valA kvs k = some r) (kk : κ r M) : OM rDGet (rV (.ref p)) (rV (kV k)) M κ := fun B G H x y o hx hy Q q => by
  obtain rfl : x = V.ref p := hx
  obtain rfl : y = kV k := hy
  obtain ⟨ws, h2, h3⟩ := o.m _ (List.mem_of_getElem? hk)
  have hh := h3.val k
  rw [hv] at hh
  obtain ⟨v, h4, h5⟩ := hh
  exact ⟨p, v, rfl, .inl ⟨ws, k, .inl h2, rfl, h4.symm⟩, q v G H r M kk o (Ex.refl _) h5⟩
theorem om_dinO (idx : Nat) (hk : M[idx]? = some (dicR p kvs)) (kk : κ (rB (valA kvs k).isSome) M) : OM rDIn (rV (kV k)) (rV (.ref p)) M κ := fun B G H y x o hy hx Q q => by
  obtain rfl : x = V.ref p := hx
  obtain rfl : y = kV k := hy
  obtain ⟨ws, h2, h3⟩ := o.m _ (List.mem_of_getElem? hk)
  exact ⟨p, _, rfl, .inl ⟨ws, k, .inl h2, rfl, rfl⟩, q _ G H _ M kk o (Ex.refl _) (by rw [h3.isSome k]; rfl)⟩
theorem om_dniO (idx : Nat) (hk : M[idx]? = some (dicR p kvs)) (kk : κ (rB (!(valA kvs k).isSome)) M) : OM rDNotIn (rV (kV k)) (rV (.ref p)) M κ := fun B G H y x o hy hx Q q => by
  obtain rfl : x = V.ref p := hx
  obtain rfl : y = kV k := hy
  obtain ⟨ws, h2, h3⟩ := o.m _ (List.mem_of_getElem? hk)
  exact ⟨p, _, rfl, .inl ⟨ws, k, .inl h2, rfl, rfl⟩, q _ G H _ M kk o (Ex.refl _) (by rw [h3.isSome k]; rfl)⟩
/-- d[k] = e -/
theorem ws_dput {κ : Kn} (idx : Nat) (h : EW W Γ M tv (fun r M1 => EW W Γ M1 td (fun r1 M2 => ∃ p, r1 = rV (.ref p) ∧ EW W Γ M2 ta (fun r2 M3 => ∃ k kvs, r2 = rV (kV k) ∧ M3[idx]? = some (dicR p kvs) ∧ kvs.length < 50000 ∧ κ.nx Γ (M3.set idx (dicR p (putA kvs k r)))) (κ.ex Γ)) (κ.ex Γ)) (κ.ex Γ)) : WP W Γ M (sDPut td ta tv) κ := fun B G H σ D o en d => by
  have dx : ∀ {G1 : Hp}, Ex G G1 → GoX B G1 (κ.ex Γ) W σ := fun e cls fs dd G' H' M' k o' e' xd => d.ex σ G' H' Γ M' cls dd fs o' (en.mono (e.trans e')) xd k
  refine h B G H σ o en _ (fun v G1 H1 r M1 h1 o1 e1 hv => h1 B G1 H1 σ o1 (en.mono e1) _ (fun x G2 H2 r1 M2 h2 o2 e2 hx => ?_) (dx e1)) (dx (Ex.refl _))
  obtain ⟨p, rfl, h3⟩ := h2
  obtain rfl : x = V.ref p := hx
  refine h3 B G2 H2 σ o2 (en.mono (e1.trans e2)) _ (fun y G3 H3 r2 M3 h4 o3 e3 hy => ?_) (dx (e1.trans e2))
  obtain ⟨k, kvs, rfl, hk, hl, kk⟩ := h4
  obtain rfl : y = kV k := hy
  obtain ⟨ws, q2, q3⟩ := o3.m _ (List.mem_of_getElem? hk)
  refine ⟨p, _, rfl, .inl ⟨ws, k, q2, rfl, sz_lt (by rw [q3.len]; omega), rfl⟩, d.nx σ G3 _ Γ _ (o3.chgD hk (q3.put (r.mono (e2.trans e3) hv))) (en.mono (e1.trans (e2.trans e3))) kk⟩
/-- for k in d -/
theorem ix_K (h : EvX Γ td (rD true kvs)) : IX Γ (iKeys td) (kvs.map (·.1)) (fun k => rV (kV k)) := fun σ G en H e R q => h σ G en H e _ fun v G1 H1 g1 hv => by
  obtain ⟨d, ws, rfl, h2, h3⟩ := hv
  obtain ⟨o, ho⟩ : ∃ o, G1 d = some (.frz o (.dK ws)) := by
    rcases h2 with q | q
    · exact q
    · exact nomatch q.1
  have el : ws.length = (kvs.map (·.1)).length := by rw [h3.len, List.length_map]
  refine ⟨d, o, rfl, .inl ⟨ws, g1.i _ _ ho, q G1 H1 _ g1 ⟨fun i H' hi ex => ⟨ex _ _ ho, by omega⟩, fun H' ex => ⟨ex _ _ ho, by omega⟩, fun i H' x H'' hi ex y => ?_⟩⟩⟩
  obtain ⟨y1, k, v, y2, rfl⟩ := y
  refine ⟨y1, fun b hb => ?_⟩
  rw [← h3.keys, List.getElem?_map, y2] at hb
  have : k = b := by simpa using hb
  rw [this]; rfl
end
/-! ### a dict is locked ahead of a statement -/
def tPre (t : TS) : TS := fun D σ H => t D σ H ∨ ∃ d u, H d = some u ∧ Mut (some u) ∧ ∀ od, t D σ (upd H d (.frz od u))
theorem ps_pre {X : Cx} {st : Stmt} {t : TS} (h : PS X st t) : PS X st (tPre t) := ⟨fun pins s σ H D I hw => by
  rcases hw with hw | ⟨d, u, hd, mu, hw⟩
  · exact h.run pins s σ H D I hw
  · obtain ⟨od, I1⟩ := I.lock hd mu
    exact h.run pins s σ _ D I1 (hw od)⟩
section
variable {B : Ba} {G H : Hp} {M : List Re} {W : WX} {Γ : Ctx} {t : TS} {κ : Kn} {kvs : List (Key × Rp)} {p : Addr} {i k : Nat} {od : Obj}
theorem w_pre0 (h : WP W Γ M t κ) : WP W Γ M (tPre t) κ := fun B G H σ D o en d => .inl (h B G H σ D o en d)
theorem Ok.frzD (o : Ok B G H M) (hk : M[k]? = some (dicR p kvs)) : ∃ ws, H p = some (.dK ws) ∧ ∀ od, ∃ G2, Ex G G2 ∧ Ok B G2 (upd H p (.frz od (.dK ws))) (M.eraseIdx k) ∧ (rD true kvs).p (.ref p) G2 := by
  have hm := List.mem_of_getElem? hk
  obtain ⟨ws, h1, h2⟩ := o.m _ hm
  have gp : G p = none := o.z p (mem_feet hm (List.mem_singleton.mpr rfl))
  have hp0 : B.H0 p = none := by
    rcases o.f _ hm p (List.mem_singleton.mpr rfl) with q | q
    · exact q
    · exact absurd q.1 (show ¬ (true = false) by decide)
  refine ⟨ws, h1, fun od => ?_⟩
  have e : Ex G (upd G p (.frz od (.dK ws))) := Ex.new gp
  refine ⟨upd G p (.frz od (.dK ws)), e, ⟨o.g.trans e, o.l.trans e, fun a u z n => ?_, fun a u z => ?_, fun a u z y => ?_, fun a ha => ?_, fun r hr => ?_, fun a ha => ?_, feet_erase_nodup o.d, fun r hr => o.f r (mem_erase hr)⟩, ⟨p, ws, rfl, .inl ⟨od, upd_same⟩, h2.mono e⟩⟩
  · rw [upd_ne (ne_of_none z hp0)]; exact o.h a u z n
  · by_cases c : a = p
    · subst c
      rw [upd_same] at z ⊢
      exact z
    · rw [upd_ne c] at z ⊢
      exact o.i a u z
  · rw [upd_ne (ne_of_none z hp0)]; exact o.n a u z y
  · by_cases c : a = p
    · subst c; exact ⟨_, upd_same⟩
    · rw [upd_ne c]; exact o.k a ha
  · exact r.loc (fun a ha u z => by
      rw [upd_ne (fun q => feet_apart o.d hk hr a ha (List.mem_singleton.mpr q))]; exact z) (r.mono e (o.m r (mem_erase hr)))
  · obtain ⟨r, hr, hf⟩ := List.mem_flatMap.mp ha
    have ne : a ≠ p := fun q => feet_apart o.d hk hr a hf (List.mem_singleton.mpr q)
    rw [upd_ne ne]
    exact o.z a (feet_erase_sub ha)
/-- a dict of our own stays from here on, and may be walked -/
theorem w_frzD (k i : Nat) (hk : M[k]? = some (dicR p kvs)) (hi : Γ[i]? = some (some (rV (.ref p)))) (h : WP W (Γ.set i (some (rD true kvs))) (M.eraseIdx k) t κ) : WP W Γ M (tPre t) κ := fun B G H σ D o en d => by
  obtain ⟨ws, h1, h2⟩ := o.frzD hk
  refine .inr ⟨p, .dK ws, h1, trivial, fun od => ?_⟩
  obtain ⟨G2, e, o2, hr⟩ := h2 od
  obtain ⟨v, hv1, hv2⟩ := en.get hi
  obtain rfl : v = V.ref p := hv2
  exact h B G2 _ σ D o2 (En.put hr (en.mono e) hv1) d
end
end Mu

namespace Mu
open PySem PySem.Spec PyProof.Rows L2 He Evl StX
/-! ### our own things lent for one reading: lists, dicts, instances of some classes -/
def lentO (cs : Addr → Bool) : HO → Bool
  | .lst _ => true
  | .dK _ => true
  | .ins C _ _ => cs C
  | .frz _ (.dK _) => true
  | _ => false
def borX (cs : Addr → Bool) (G H : Hp) (M : List Re) : Hp := fun a => match G a with
  | some o => some o
  | none => if a ∈ feet M then (match H a with
    | some o => if lentO cs o = true then some o else none
    | none => none) else none
def nlX (cs : Addr → Bool) (G : Hp) : Hp := fun a => match G a with
  | some o => if lentO cs o = true then none else some o
  | none => none
def LFX (cs : Addr → Bool) (r : Rp) : Prop := ∀ v G, r.p v G → r.p v (nlX cs G)
section
variable {B : Ba} {G H G2 H2 : Hp} {M : List Re} {W : WX} {Γ Γ' Γ1 : Ctx} {te ta tb tl : TE} {t : TT} {K : PySem.W.Frag} {κ : KV} {ε : KX} {r r0 : Rp} {rs rs0 : List Rp} {i j k n : Nat} {p C : Addr} {fs : FL} {vs : List Nat} {cs : Addr → Bool}
theorem borX_g : Ex G (borX cs G H M) := fun a o z => by
  unfold borX
  rw [z]
theorem borX_i (e : Ex G H) : Ex (borX cs G H M) H := fun a o z => by
  unfold borX at z
  cases q : G a with
  | some u =>
    rw [q] at z
    cases z
    exact e _ _ q
  | none =>
    rw [q] at z
    by_cases c : a ∈ feet M
    · rw [if_pos c] at z
      cases y : H a with
      | none => rw [y] at z; cases z
      | some u =>
        rw [y] at z
        dsimp only at z
        split at z
        · exact z
        · cases z
    · rw [if_neg c] at z
      cases z
theorem borX_no {a : Addr} (hg : G a = none) (hf : a ∉ feet M) : borX cs G H M a = none := by
  unfold borX
  rw [hg, if_neg hf]
theorem borX_at {a : Addr} {o : HO} (hg : G a = none) (hf : a ∈ feet M) (h : H a = some o) (hl : lentO cs o = true) : borX cs G H M a = some o := by
  unfold borX
  rw [hg, if_pos hf, h]
  dsimp only
  rw [if_pos hl]
theorem borX_nl {a : Addr} {o : HO} (hg : G a = none) (h : H a = some o) (hl : lentO cs o = false) : borX cs G H M a = none := by
  unfold borX
  rw [hg]
  by_cases c : a ∈ feet M
  · rw [if_pos c, h]
    dsimp only
    rw [hl]; rfl
  · rw [if_neg c]
theorem nlX_at {a : Addr} {o : HO} (h : nlX cs G a = some o) : G a = some o ∧ lentO cs o = false := by
  unfold nlX at h
  cases q : G a with
  | none => rw [q] at h; cases h
  | some u =>
    rw [q] at h
    dsimp only at h
    split at h
    · cases h
    · rename_i c
      cases h
      exact ⟨rfl, by simpa using c⟩
theorem nlX_of {a : Addr} {o : HO} (h : G a = some o) (hn : lentO cs o = false) : nlX cs G a = some o := by
  unfold nlX
  rw [h]
  dsimp only
  rw [hn]; rfl
theorem Ok.borX (o : Ok B G H M) (g : Gr (borX cs G H M) H G2 H2) : ∃ G3, Gr G H G3 H2 ∧ Ex (nlX cs G2) G3 ∧ ∀ a u, G3 a = some u → G2 a = some u := by
  refine ⟨fun a => if a ∈ feet M then none else G2 a, ⟨fun a u z => ?_, g.h, fun a u z => ?_, fun a u z y => ?_⟩, fun a u z => ?_, fun a u z => ?_⟩
  · have c : a ∉ feet M := fun q => by rw [o.z a q] at z; cases z
    show (if a ∈ feet M then none else G2 a) = some u
    rw [if_neg c]
    exact g.g a u (borX_g a u z)
  · have z' : (if a ∈ feet M then none else G2 a) = some u := z
    by_cases c : a ∈ feet M
    · rw [if_pos c] at z'; cases z'
    · rw [if_neg c] at z'; exact g.i a u z'
  · show (if a ∈ feet M then none else G2 a) = none
    by_cases c : a ∈ feet M
    · rw [if_pos c]
    · rw [if_neg c]
      exact g.n a u z (borX_no y c)
  · obtain ⟨z1, z2⟩ := nlX_at z
    show (if a ∈ feet M then none else G2 a) = some u
    have c : a ∉ feet M := fun q => by
      have gz := o.z a q
      obtain ⟨R, hR, ha⟩ := List.mem_flatMap.mp q
      obtain ⟨w, hw⟩ := R.at_ (o.m R hR) a ha
      have hu := g.i a u z1
      rw [g.h a w hw] at hu
      cases hu
      have hb : Mu.borX cs G H M a = none := borX_nl gz hw z2
      rw [g.n a _ hw hb] at z1
      cases z1
    rw [if_neg c]
    exact z1
  · have z' : (if a ∈ feet M then none else G2 a) = some u := z
    by_cases c : a ∈ feet M
    · rw [if_pos c] at z'; cases z'
    · rw [if_neg c] at z'; exact z'
def BxR (cs : Addr → Bool) (M : List Re) (r0 r : Rp) : Prop := ∀ B G H, Ok B G H M → ∀ v, r0.p v G → r.p v (borX cs G H M)
def BxC (cs : Addr → Bool) (M : List Re) (Γ Γ' : Ctx) : Prop := ∀ B G H σ, Ok B G H M → En σ G Γ → En σ (borX cs G H M) Γ'
theorem bx_same : BxR cs M r r := fun B G H o v h => r.mono borX_g h
theorem bx_refl : BxC cs M Γ Γ := fun B G H σ o en => en.mono borX_g
theorem bx_set (h : BxC cs M Γ Γ1) (hi : Γ[i]? = some (some r0)) (hr : BxR cs M r0 r) : BxC cs M Γ (Γ1.set i (some r)) := fun B G H σ o en => by
  obtain ⟨v, h1, h2⟩ := en.get hi
  exact En.put (hr B G H o v h2) (h B G H σ o en) h1
theorem bx_lst (hk : M[k]? = some (lstR p rs)) : BxR cs M (rV (.ref p)) (rL K rs) := fun B G H o v hv => by
  obtain rfl : v = V.ref p := hv
  have hm := List.mem_of_getElem? hk
  obtain ⟨ws, h1, h2⟩ := o.m _ hm
  have hf := mem_feet hm (List.mem_singleton.mpr rfl)
  exact ⟨p, ws, rfl, borX_at (o.z p hf) hf h1 rfl, h2.mono borX_g⟩
theorem bx_dic {kvs : List (Key × Rp)} (hk : M[k]? = some (dicR p kvs)) : BxR cs M (rV (.ref p)) (rD false kvs) := fun B G H o v hv => by
  obtain rfl : v = V.ref p := hv
  have hm := List.mem_of_getElem? hk
  obtain ⟨ws, h1, h2⟩ := o.m _ hm
  have hf := mem_feet hm (List.mem_singleton.mpr rfl)
  exact ⟨p, ws, rfl, .inr ⟨rfl, borX_at (o.z p hf) hf h1 rfl⟩, h2.mono borX_g⟩
theorem bx_fs {fs0 fs1 : FL} (h : Paired (fun a b => a.1 = b.1 ∧ BxR cs M a.2 b.2) fs0 fs1) : ∀ {B : Ba} {G H : Hp} {ws : List (Str × V)}, Ok B G H M → FsR G ws fs0 → FsR (borX cs G H M) ws fs1 := by
  induction h with
  | nil => intro B G H ws o q; cases q; exact .nil
  | cons h t ih => intro B G H ws o q; cases q with | cons a b => exact .cons ⟨a.1.trans h.1, h.2 B G H o _ a.2⟩ (ih o b)
theorem bx_ins {own : Bool} {fs0 fs1 : FL} (hk : M[k]? = some (insR own p C fs0)) (hC : cs C = true) (h : Paired (fun a b => a.1 = b.1 ∧ BxR cs M a.2 b.2) fs0 fs1) : BxR cs M (rV (.ref p)) (rIns C fs1) := fun B G H o v hv => by
  obtain rfl : v = V.ref p := hv
  have hm := List.mem_of_getElem? hk
  obtain ⟨dx, ws, h1, h2⟩ := o.m _ hm
  have hf := mem_feet hm (List.mem_singleton.mpr rfl)
  exact ⟨p, dx, ws, rfl, borX_at (o.z p hf) hf h1 hC, bx_fs h o h2⟩
theorem e_bx (cs : Addr → Bool) (hb : BxC cs M Γ Γ') (h : EvX Γ' te r) (lf : LFX cs r) (kk : κ r M) : EW W Γ M te κ ε := fun B G H σ o en Q q x =>
  h σ _ (hb B G H σ o en) H (borX_i o.i) Q fun v G2 H2 g hv => by
    obtain ⟨G3, g3, e3, _⟩ := o.borX g
    exact q v G3 H2 r M kk (o.gr g3) g3.g (r.mono e3 (lf v G2 hv))
theorem lfx_ra (h : ∀ r ∈ rs, LFX cs r) : ∀ {ws : List V}, RA G ws rs → RA (nlX cs G) ws rs := by
  induction rs with
  | nil => intro ws q; cases q; exact .nil
  | cons a t ih => intro ws q; cases q with | cons x y => exact .cons (h a List.mem_cons_self _ _ x) (ih (fun r hr => h r (List.mem_cons_of_mem _ hr)) y)
/-- .. a new list of things that were not lent -/
theorem e_bxO (cs : Addr → Bool) (hb : BxC cs M Γ Γ') (h : EvNX Γ' te rs) (lf : ∀ r ∈ rs, LFX cs r) (kk : ∀ p, κ (rV (.ref p)) (M ++ [lstR p rs])) : EW W Γ M te κ ε := fun B G H σ o en Q q x =>
  h σ _ (hb B G H σ o en) H (borX_i o.i) Q fun p ws G2 H2 g hp gp h2 ra => by
    obtain ⟨G3, g3, e3, e4⟩ := o.borX g
    have gp3 : G3 p = none := by
      cases z : G3 p with
      | none => rfl
      | some u => rw [e4 p u z] at gp; cases gp
    exact q _ G3 H2 _ _ (kk p) (o.add (R := lstR p rs) g3 (show [p].Nodup by simp) (fun a ha => by rw [List.mem_singleton.mp ha]; exact ⟨hp, gp3⟩) ⟨ws, h2, Paired.mono (fun _ b z => b.mono e3 z) (lfx_ra lf ra)⟩) g3.g rfl
theorem e_bxN (cs : Addr → Bool) (hb : BxC cs M Γ Γ') (h : EvNX Γ' te rs) (lf : ∀ r ∈ rs, LFX cs r) (kk : κ (rL K rs) M) : EW W Γ M te κ ε := fun B G H σ o en Q q x =>
  e_bxO (κ := fun r M' => ∃ p ss M, r = rV (.ref p) ∧ M' = M ++ [lstR p ss] ∧ κ (rL K ss) M) (ε := ε) (W := W) cs hb h lf (fun p => ⟨p, rs, M, rfl, rfl, kk⟩) B G H σ o en Q q.frz x
theorem et_bx (cs : Addr → Bool) {κ : Bool → List Re → Prop} {c : Bool} (hb : BxC cs M Γ Γ') (h : EvTX Γ' t c) (kk : κ c M) : ET W Γ M t κ ε := fun B G H σ o en Q q x =>
  h σ _ (hb B G H σ o en) H (borX_i o.i) Q fun H2 e => q c G H2 M kk (o.ex e) (Ex.refl _)
/-! what was not lent -/
theorem lfx_v {v : V} : LFX cs (rV v) := fun _ _ h => h
theorem lfx_sqT {a : Addr} {xs : List V} (h : SqT K G a xs) : SqT K (nlX cs G) a xs := by
  rcases h with h | h
  · left
    unfold Rd at h ⊢
    rcases h with h | ⟨od, h⟩
    · exact .inl (nlX_of h rfl)
    · exact .inr ⟨od, nlX_of h rfl⟩
  · exact .inr h
theorem lfx_t (h : ∀ r ∈ rs, LFX cs r) : LFX cs (rT K rs) := fun v G hv => by
  obtain ⟨a, ws, rfl, h1, h2⟩ := hv
  exact ⟨a, ws, rfl, lfx_sqT h1, lfx_ra h h2⟩
theorem lfx_tm {α : Type} {l : List α} {ρ : α → Rp} (h : ∀ a, LFX cs (ρ a)) : LFX cs (rT K (l.map ρ)) := lfx_t fun r hr => by
  obtain ⟨a, _, rfl⟩ := List.mem_map.mp hr
  exact h a
theorem lfx_fs (h : ∀ f ∈ fs, LFX cs f.2) : ∀ {ws : List (Str × V)}, FsR G ws fs → FsR (nlX cs G) ws fs := by
  induction fs with
  | nil => intro ws q; cases q; exact .nil
  | cons a t ih => intro ws q; cases q with | cons x y => exact .cons ⟨x.1, h a List.mem_cons_self _ _ x.2⟩ (ih (fun r hr => h r (List.mem_cons_of_mem _ hr)) y)
theorem lfx_ins (hC : cs C = false) (h : ∀ f ∈ fs, LFX cs f.2) : LFX cs (rIns C fs) := fun v G hv => by
  obtain ⟨a, dx, ws, rfl, h1, h2⟩ := hv
  exact ⟨a, dx, ws, rfl, nlX_of h1 hC, lfx_fs h h2⟩
theorem lfx_tn {l : List Nat} : LFX cs (rTn K l) := lfx_tm fun _ => lfx_v
theorem lfx_tab {m : List Nat} (hC : cs C = false) : LFX cs (rTab K C m) := fun v G hv => by
  obtain ⟨a, dx, t, c, rfl, h1, h2, h3⟩ := hv
  exact ⟨a, dx, t, c, rfl, nlX_of h1 hC, lfx_tn _ _ h2, lfx_tm (ρ := rP K) (fun q => lfx_t fun r hr => by
    simp only [List.mem_cons, List.not_mem_nil, or_false] at hr
    rcases hr with rfl | rfl <;> exact lfx_v) _ _ h3⟩
end
/-! ### own instances and their dicts stay from here on -/
section
variable {W : WX} {Γ : Ctx} {M : List Re} {t : TS} {κ : Kn} {p C d : Addr} {fs : FL} {kvs : List (Key × Rp)} {i k : Nat} {B : Ba} {G H : Hp}
theorem w_frzI (k i : Nat) (hk : M[k]? = some (insR true p C fs)) (hi : Γ[i]? = some (some (rV (.ref p)))) (h : WP W (Γ.set i (some (rIns C fs))) (M.eraseIdx k) t κ) : WP W Γ M t κ := fun B G H σ D o en dd => by
  obtain ⟨G2, e, o2, hr⟩ := o.frzI hk
  obtain ⟨v, hv1, hv2⟩ := en.get hi
  obtain rfl : v = V.ref p := hv2
  exact h B G2 H σ D o2 (En.put hr (en.mono e) hv1) dd
theorem Ok.frzM (o : Ok B G H M) (hk : M[k]? = some (dicR d kvs)) : ∃ G2, Ex G G2 ∧ Ok B G2 H (M.eraseIdx k) ∧ (rD false kvs).p (.ref d) G2 := by
  have hm := List.mem_of_getElem? hk
  obtain ⟨ws, h1, h2⟩ := o.m _ hm
  have gp : G d = none := o.z d (mem_feet hm (List.mem_singleton.mpr rfl))
  have e : Ex G (upd G d (.dK ws)) := Ex.new gp
  refine ⟨upd G d (.dK ws), e, ⟨o.g.trans e, o.l.trans e, o.h, ex_add o.i h1, fun a u z y => ?_, o.k, fun r hr => r.mono e (o.m r (mem_erase hr)), fun a ha => ?_, feet_erase_nodup o.d, fun r hr => o.f r (mem_erase hr)⟩, ⟨d, ws, rfl, .inr ⟨rfl, upd_same⟩, h2.mono e⟩⟩
  · rcases o.f _ hm d (List.mem_singleton.mpr rfl) with q | q
    · rw [upd_ne (ne_of_none z q)]; exact o.n a u z y
    · exact absurd q.1 (show ¬ (true = false) by decide)
  · obtain ⟨r, hr, hf⟩ := List.mem_flatMap.mp ha
    have ne : a ≠ d := fun q => feet_apart o.d hk hr a hf (List.mem_singleton.mpr q)
    rw [upd_ne ne]
    exact o.z a (feet_erase_sub ha)
/-- an instance with a dict (in the field f) stays from here on -/
theorem FsR.setS {f : Str} {r r0 : Rp} (hr : ∀ v, r0.p v G → r.p v G) : ∀ {ws : List (Str × V)} {rs : FL}, FsR G ws rs → rs.lookup f = some r0 → FsR G ws (setR f r rs)
  | _, _, .nil, h => by cases h
  | (g, x) :: ws, (g', r') :: rs, .cons h t, e => by
    obtain ⟨h1, h2⟩ := h
    have h1' : g = g' := h1
    subst h1'
    rw [List.lookup_cons] at e
    show FsR G ((g, x) :: ws) (if g = f then (g, r) :: rs else (g, r') :: setR f r rs)
    by_cases c : g = f
    · subst c
      rw [show (g == g) = true by simp] at e
      cases e
      rw [if_pos rfl]
      exact .cons ⟨rfl, hr _ h2⟩ t
    · have q : (f == g) = false := by simpa using fun z : f = g => c z.symm
      rw [q] at e
      rw [if_neg c]
      exact .cons ⟨rfl, h2⟩ (FsR.setS hr t e)
theorem w_frzID {f : Str} {k2 : Nat} (k i : Nat) (hk : M[k]? = some (insR true p C fs)) (hk2 : (M.eraseIdx k)[k2]? = some (dicR d kvs)) (hf : fs.lookup f = some (rV (.ref d))) (hi : Γ[i]? = some (some (rV (.ref p)))) (h : WP W (Γ.set i (some (rIns C (setR f (rD false kvs) fs)))) ((M.eraseIdx k).eraseIdx k2) t κ) : WP W Γ M t κ := fun B G H σ D o en dd => by
  obtain ⟨G2, e, o2, hr⟩ := o.frzI hk
  obtain ⟨G3, e3, o3, hr3⟩ := o2.frzM hk2
  obtain ⟨v, hv1, hv2⟩ := en.get hi
  obtain rfl : v = V.ref p := hv2
  refine h B G3 H σ D o3 (En.put ?_ (en.mono (e.trans e3)) hv1) dd
  obtain ⟨a, dx, ws, ea, h1, h2⟩ := hr
  exact ⟨a, dx, ws, ea, e3 _ _ h1, (h2.mono e3).setS (fun v hv => by obtain rfl : v = V.ref d := hv; exact hr3) hf⟩
end
/-! ### def __init__(self, a, .., **d), called without keywords -/
section
variable {CX : CXT} {P : Program} {w : World} {K : PySem.W.Frag} {mg : Str → Option Value} {base : Heap} {k : Nat} {f : Addr} {name qual : Str} {params : Arguments} {body : List Stmt} {scope : Scope} {N ps : List Str} {sp : Sp} {fd : FuncData}
theorem fn_kw {pd : Str} (F : FunD K name qual params body scope [] [] f fd) (S : FnScope N (ps ++ [pd]) scope) (hCX : CXUp CX)
    (hb : ∀ us : List Value, us.length = ps.length → bindArgs fd ⟨us, []⟩ = ((alloc ({ cls := .type "dict", data := .dict #[] } : Obj) : Sem Addr) >>= fun d => pure (ps.zip us ++ [(pd, Value.ref d)])))
    (hbody : ∀ (cdv : Value) (A : Around) (outer : List Env) (s : Shared) (H : Hp) (vs : List V) (Q : VK) (E : XK), Room k (A.deeper (envOfC qual scope s.heap.objs.size f cdv)) → sp vs H Q E →
      ∃ t, PSs (cxOf CX P w K mg base N qual scope f cdv A outer s H E) body t ∧ t { nx := fun _ H' => Q .non H', rt := Q } (L2.start N vs) H) :
    FnR P w K mg base CX (k + 1) f (fun vs H Q E => vs.length = ps.length ∧ ∀ d, H d = Option.none → sp (vs ++ [V.ref d]) (upd H d (.dK [])) Q E) := by
  obtain ⟨oc, od, dV, kV, doc, pm, an, cdv, ct, osl, rfl, lk, hcd, _, _⟩ := F.ex
  intro A outer s H us vs Q E hr e0 r hsp
  obtain ⟨hl, hq⟩ := hsp
  have hn : H s.heap.objs.size = Option.none := e0.hok.fresh (Nat.le_refl _)
  have hl1 : us.length = ps.length := by rw [← r.length]; exact hl
  refine run_bnd lk hcd S hr e0 (G := fun xs H2 => ∃ d, H d = Option.none ∧ xs = vs ++ [V.ref d] ∧ H2 = upd H d (.dK [])) (fun A' Ex Q' h => ?_) fun s2 H2 xs ⟨d, hd, ex, eH⟩ hr' => ?_
  · rw [hb us hl1]
    refine wpAny_bind (wpAny_alloc (wpAny_pure ?_))
    have e2 := env0_laid (u := .dK []) (o := ({ cls := .type "dict", data := .dict #[] } : Obj)) e0 (dk_empty _ (env0_big e0))
    have un := un_laid (fs := frs outer) (s := s) (o := ({ cls := .type "dict", data := .dict #[] } : Obj)) (u := .dK []) hn
    have z := h _ _ (vs ++ [V.ref s.heap.objs.size]) (us ++ [Value.ref s.heap.objs.size]) e2 un rfl (fun e s' => hCX outer s H _ _ E e s' un (fun b o q => Heap.get?_push_of_some _ q) rfl) (r.append (.cons rfl .nil))
      (by rw [List.length_append, List.length_append, hl] <;> rfl) ⟨_, hn, rfl, rfl⟩
    rw [List.zip_append hl1.symm] at z
    exact z
  · subst ex eH
    exact hbody cdv A outer s2 _ _ Q E hr' (hq d hd)
end
def spK (n : Nat) (sp : Sp) : Sp := fun vs H Q E => vs.length = n ∧ ∀ d, H d = Option.none → sp (vs ++ [V.ref d]) (upd H d (.dK [])) Q E
theorem feet_perm {M M' : List Re} (h : M.Perm M') : (feet M).Perm (feet M') := by
  unfold feet
  exact h.flatMap_right _
theorem Ok.perm {B : Ba} {G H : Hp} {M M' : List Re} (o : Ok B G H M) (h : M.Perm M') : Ok B G H M' :=
  ⟨o.g, o.l, o.h, o.i, o.n, o.k, fun r hr => o.m r (h.mem_iff.mpr hr), fun a ha => o.z a ((feet_perm h).mem_iff.mpr ha), (feet_perm h).nodup_iff.mp o.d, fun r hr => o.f r (h.mem_iff.mpr hr)⟩
/-- C(..), the new instance our own, by a promise with changes; the dict of keywords is empty -/
theorem e_makeC {W : WX} {Γ : Ctx} {M : List Re} {κ : KV} {ε : KX} {C : Addr} {E : XK} {ta : TA} {n : Nat} {R : List V → Hp → List Re → KV → KX → Prop} (h : EA W Γ M ta (fun rs M1 => rs.length + 1 = n ∧ ∀ p d vs G, RA G vs (rV (.ref p) :: (rs ++ [rV (.ref d)])) → R vs G (insR true p C [] :: dicR d [] :: M1) (fun r M' => r = rV .non ∧ ∃ M2, M'.Perm M2 ∧ κ (rV (.ref p)) M2) (fun _ _ _ => False)) ε) : EW W Γ M (tMakeR C (spK n (spC R)) E ta) κ ε := fun B G H σ o en Q q x =>
  h B G H σ o en _ (fun vs G1 H1 rs M1 h1 o1 e1 ra => fun p dx hp hdx ne => by
    obtain ⟨hl, hR⟩ := h1
    refine ⟨by show vs.length + 1 = n; rw [ra.len]; exact hl, fun d hd => ?_⟩
    have hp1 : upd H1 dx (.own p) p = none := by rw [upd_ne (Ne.symm ne)]; exact hp
    have g1 := Gr.out (o := .own p) o1.i hdx
    have g2 : Gr G1 (upd H1 dx (.own p)) G1 (upd (upd H1 dx (.own p)) p (.ins C dx [])) := Gr.out g1.i hp1
    have gp : G1 p = none := fresh_back o1.i hp
    have o2 : Ok B G1 (upd (upd H1 dx (.own p)) p (.ins C dx [])) (M1 ++ [insR true p C []]) := (o1.gr g1).add (R := insR true p C []) g2 (show [p].Nodup by simp) (fun a ha => by rw [List.mem_singleton.mp ha]; exact ⟨hp1, gp⟩) ⟨dx, [], upd_same, .nil⟩
    have g3 : Gr G1 (upd (upd H1 dx (.own p)) p (.ins C dx [])) G1 (upd (upd (upd H1 dx (.own p)) p (.ins C dx [])) d (.dK [])) := Gr.out g2.i hd
    have gd : G1 d = none := fresh_back g2.i hd
    have o3 : Ok B G1 (upd (upd (upd H1 dx (.own p)) p (.ins C dx [])) d (.dK [])) ((M1 ++ [insR true p C []]) ++ [dicR d []]) := o2.add (R := dicR d []) g3 (show [d].Nodup by simp) (fun a ha => by rw [List.mem_singleton.mp ha]; exact ⟨hd, gd⟩) ⟨[], upd_same, .nil⟩
    have o4 : Ok B G1 (upd (upd (upd H1 dx (.own p)) p (.ins C dx [])) d (.dK [])) (insR true p C [] :: dicR d [] :: M1) := o3.perm (by
      rw [List.append_assoc]
      exact List.perm_append_comm)
    refine ⟨B, G1, _, _, _, o4, hR p d _ G1 (.cons rfl (ra.append (.cons rfl .nil))), fun v G' H' r M' z o' e' hv => ?_, fun _ _ _ _ _ _ z => z.elim⟩
    obtain ⟨rfl, M2, pm, kk⟩ := z
    obtain rfl : v = V.non := hv
    exact ⟨rfl, q _ G' H' _ M2 kk (o'.perm pm) (e1.trans e') rfl⟩) x
theorem FunD.bindsK {K : PySem.W.Frag} {x qual : Str} {params : Arguments} {body : List Stmt} {scope : Scope} {kws : List (Str × V)} {f : Addr} {fd : FuncData} {ps : List Str} {pd : Str} (F : FunD K x qual params body scope [] kws f fd)
    (h : ∀ (kV doc pm : Value) (an : Option Addr) (cdv ct : Value) (us : List Value), us.length = ps.length → bindArgs (PySem.W.fnOf x qual params body scope .none kV doc pm an cdv ct) ⟨us, []⟩ = ((alloc ({ cls := .type "dict", data := .dict #[] } : Obj) : Sem Addr) >>= fun d => pure (ps.zip us ++ [(pd, Value.ref d)]))) : ∀ us : List Value, us.length = ps.length → bindArgs fd ⟨us, []⟩ = ((alloc ({ cls := .type "dict", data := .dict #[] } : Obj) : Sem Addr) >>= fun d => pure (ps.zip us ++ [(pd, Value.ref d)])) := by
  obtain ⟨oc, od, dV, kV, doc, pm, an, cdv, ct, osl, rfl, lk, hcd, hD, hK⟩ := F.ex
  rcases hD with ⟨_, rfl⟩ | ⟨e, _⟩
  · exact h kV doc pm an cdv ct
  · exact absurd rfl e
theorem bindsD1 {K : PySem.W.Frag} {x qual : Str} {params : Arguments} {body : List Stmt} {scope : Scope} {dvs : List V} {kws : List (Str × V)} {f : Addr} {fd : FuncData} {ps : List Str} (F : FunD K x qual params body scope dvs kws f fd) (hd : dvs ≠ [])
    (h : ∀ (T : Addr) (kV doc pm : Value) (an : Option Addr) (cdv ct : Value) (us its : List Value), us.length = ps.length → its.length = dvs.length →
      ∃ k, bindArgs (PySem.W.fnOf x qual params body scope (.ref T) kV doc pm an cdv ct) ⟨us, []⟩ = seqItems? (.ref T) >>= k ∧ k (some its.toArray) = pure (ps.zip (us ++ its.drop dvs.length))) : Binds K fd ps [] := by
  obtain ⟨ds, hv, hb⟩ := F.binds1 ps.length dvs.length hd (by omega) h
  rw [List.drop_length] at hv
  cases hv
  exact hb
theorem x_sorted0 {Γ : Ctx} {te : TE} {K : PySem.W.Frag} (h : EvX Γ te (rL K [])) : EvX Γ (tCB (rSortedS K) (tCons te tNil)) (rL K []) := fun σ G en H e Q q => h σ G en H e _ fun v G1 H1 g1 hv => by
  obtain ⟨a, ws, rfl, h1, h2⟩ := hv
  cases h2
  refine ⟨a, [], rfl, sq_of (g1.i _ _ h1), by show 0 < 64; decide, fun ys p hp _ hn => ?_⟩
  obtain rfl := List.Perm.eq_nil hp
  have g3 := Gr.new (o := .lst []) g1.i hn
  exact q _ _ _ (g1.trans g3) ⟨p, [], rfl, upd_same, .nil⟩
end Mu
theorem L2.Room.u1 {k : Nat} {A : PySem.Around} (r : L2.Room k A) : A.units + 1 < PySem.cLine := by have := r.un; omega

namespace Mu
open PySem PySem.Spec PyProof.Rows L2 He Evl
/-! ### enumerate(text) -/
def Ites (x : Str) : It := ⟨fun i _ => i < x.cps.size, fun i H v H' => ∃ T c, v = .ref T ∧ H T = none ∧ H' = upd H T (.tup [.int (i : Nat), .str ⟨#[c]⟩]) ∧ x.cps[i]? = some c, fun i _ => i = x.cps.size⟩
theorem turn_enumS {P : Program} {w : World} {K : PySem.W.Frag} {elts : List Expr} {kk : Nat} {tpos : Pos} (x : Str) (t : Tok) (e it : Addr) :
    Turn P w K (.Tuple elts kk tpos) (Ites x) [e, it] e (fun i h => (∃ old, IsEnum h e it ((i : Nat) : Int) old) ∧ h.IsStrIter it (strIterType x) x t i ∧ e ≠ it) where
  mem := by simp
  obj := fun i h st b hb => by
    obtain ⟨⟨old, he⟩, ⟨o, ho, hc, hd⟩, _⟩ := st
    have e' : b = e ∨ b = it := by simpa using hb
    rcases e' with z | z
    · rw [z]; exact ⟨_, he, fun v q => nomatch q⟩
    · rw [z]; exact ⟨o, ho, fun v q => by rw [hd] at q; cases q⟩
  keep := fun i h h' st k => let ⟨⟨old, he⟩, ⟨o, ho, r⟩, hne⟩ := st; ⟨⟨old, k e (by simp) _ he⟩, ⟨o, k it (by simp) o ho, r⟩, hne⟩
  item := by
    intro X hP hw hK hc i pins s σ H E I hf st hg
    subst hP hw hK
    obtain ⟨⟨old, he⟩, hit, hne⟩ := st
    have hi : i < x.cps.size := hg
    have hel : e < s.heap.objs.size := Heap.lt_size he
    have hil : it < s.heap.objs.size := by obtain ⟨_, q, _⟩ := hit; exact Heap.lt_size q
    have hh : X.A.in1.handled = none := I.ok.hd hc
    refine wpAny_pyNext_enum_itemD (Draws.text hh it x t) he hit hi hne (by simpa using hne) fun u h' tk hu ho hit' hT hsz hk => ?_
    obtain ⟨c, u', hc2, rfl⟩ := hu
    refine ⟨_, rfl, wpAny_letOwnedTupleGo_enum (s := { s with heap := h', toks := tk + 1 }) ho fun h'' he' sb => ?_⟩
    have hT2 : h''.get? s.heap.objs.size = some { cls := .type "tuple", data := .seq #[.int i tk, .str ⟨#[c]⟩ u'] } := (sb.2 _ (Nat.ne_of_gt hel)).trans hT
    have new : ObjOk X.prog X.w (upd H s.heap.objs.size (.tup [.int (i : Nat), .str ⟨#[c]⟩])) h'' s.heap.objs.size (.tup [.int (i : Nat), .str ⟨#[c]⟩]) :=
      ⟨by show 2 ≤ sizeLine; decide, [.int i tk, .str ⟨#[c]⟩ u'], .cons ⟨_, rfl⟩ (.cons ⟨_, rfl⟩ .nil), ⟨_, hT2, rfl, _, rfl⟩⟩
    have I1 : Inv X pins σ (upd H s.heap.objs.size (.tup [.int (i : Nat), .str ⟨#[c]⟩])) { s with heap := h'', toks := tk + 1 } :=
      I.turnedNew (ch := [e, it]) (fun b ob hb q => (sb.2 b (fun z => hb (by simp [z]))).trans (hk b ob (fun z => hb (by simp [z])) (fun z => hb (by simp [z])) q)) hf (Nat.le_refl _) new
    obtain ⟨oi, ho2, r2⟩ := hit'
    refine ⟨.ref s.heap.objs.size, _, I1, rfl, ⟨_, c, rfl, I.hok.fresh (Nat.le_refl _), rfl, hc2⟩, ⟨⟨.str ⟨#[c]⟩ u', ?_⟩, ⟨oi, (sb.2 it (Ne.symm hne)).trans ho2, r2⟩, hne⟩, fun b hb => ?_⟩
    · have e1 : ((i + 1 : Nat) : Int) = (i : Int) + 1 := by omega
      rw [e1]; exact he'
    · have hb' : b < s.heap.objs.size := by
        have e' : b = e ∨ b = it := by simpa using hb
        rcases e' with z | z
        · rw [z]; exact hel
        · rw [z]; exact hil
      rw [upd_ne (Nat.ne_of_lt hb')]
      exact (hf b hb).1
  done := by
    intro X hP hw hK hc i pins s σ H E I hf st hg
    subst hP hw hK
    obtain ⟨⟨old, he⟩, hit, hne⟩ := st
    obtain rfl : i = x.cps.size := hg
    obtain ⟨f0, f1, f2, f3, f4, f5⟩ := hf it (by simp)
    have hh : X.A.in1.handled = none := I.ok.hd hc
    exact wpAny_pyNext_enum_endD (Draws.text hh it x t) he hit fun h' eb => ⟨rfl, I.turned (t' := s.toks) (fun b o hb q => eb b o hb q) f0 f1 f3 f4 f5⟩
  self := fun A i s Q E st h => let ⟨⟨_, he⟩, _⟩ := st; wpAny_pyIter_enum he h
def iEnS (ta : TA) : TI := fun σ H R => ta σ H fun vs H1 => ∃ x, vs = [.str x] ∧ R (Ites x) H1
theorem pi_enumS {X : Cx} {e : Expr} {ta : TA} {p pos tpos : Pos} {elts : List Expr} {kk : Nat} (hg : Gl X "enumerate") (hm : X.mg "enumerate" = none) (ha : PA X [e] ta) (hs : starEach [e] X.env = [(false, eval e X.env)] := by rfl) :
    PI X (.Tuple elts kk tpos) (.Call (.Name "enumerate" p) [e] [] pos) (iEnS ta) := by
  refine ⟨fun pins s σ H R I h => ?_⟩
  refine Call_ (ld_blt I hg hm boot_enumerate (PyProof.Rows.callWith_type1 (thn (ha.run pos pins s σ H _ I h) fun us s1 ⟨vs, H1, I1, r1, q1⟩ => ?_) hs rfl))
  obtain ⟨x, ex, q⟩ := q1
  subst ex
  cases r1 with
  | cons r rr =>
    cases rr
    obtain ⟨t, rfl⟩ := r
    refine call_enumerate_str fun h' he hit hsz hk => wpAny_pyIter_enum he ?_
    have I2 : Inv X pins σ H1 { s1 with heap := h' } := I1.kept (t' := s1.toks) hk
    refine ⟨s1.heap.objs.size + 1, [s1.heap.objs.size + 1, s1.heap.objs.size], _, _, H1, rfl, I2, turn_enumS x t (s1.heap.objs.size + 1) s1.heap.objs.size, ⟨⟨.none, he⟩, hit, Nat.succ_ne_self _⟩, fun b hb => ?_, q⟩
    have e' : b = s1.heap.objs.size + 1 ∨ b = s1.heap.objs.size := by simpa using hb
    have hle : s1.heap.objs.size ≤ b := by
      rcases e' with z | z
      · rw [z]; exact Nat.le_add_right _ _
      · rw [z]; exact Nat.le_refl _
    exact I1.fpOk hle (I1.hok.fresh hle)
section
variable {W : WX} {Γ : Ctx} {M : List Re} {te ta tb tv td : TE} {K : PySem.W.Frag} {r : Rp} {κ : KV} {ε : KX} {kvs : List (Key × Rp)} {z : Bool} {s : Str} {p : Addr}
theorem om_dgetF (hv : valA kvs (.inr s) = some r) (kk : κ r M) : OM rDGet (rD z kvs) (rV (.str s)) M κ := om_dget (k := .inr s) hv kk
theorem om_dinF (kk : κ (rB (valA kvs (.inr s)).isSome) M) : OM rDIn (rV (.str s)) (rD z kvs) M κ := om_din (k := .inr s) kk
theorem om_dniF (kk : κ (rB (!(valA kvs (.inr s)).isSome)) M) : OM rDNotIn (rV (.str s)) (rD z kvs) M κ := om_dni (k := .inr s) kk
theorem om_dgetS (idx : Nat) (hk : M[idx]? = some (dicR p kvs)) (hv : valA kvs (.inr s) = some r) (kk : κ r M) : OM rDGet (rV (.ref p)) (rV (.str s)) M κ := om_dgetO (k := .inr s) idx hk hv kk
theorem om_dinS (idx : Nat) (hk : M[idx]? = some (dicR p kvs)) (kk : κ (rB (valA kvs (.inr s)).isSome) M) : OM rDIn (rV (.str s)) (rV (.ref p)) M κ := om_dinO (k := .inr s) idx hk kk
theorem om_dniS (idx : Nat) (hk : M[idx]? = some (dicR p kvs)) (kk : κ (rB (!(valA kvs (.inr s)).isSome)) M) : OM rDNotIn (rV (.str s)) (rV (.ref p)) M κ := om_dniO (k := .inr s) idx hk kk
theorem am_lenDO (idx : Nat) (hk : M[idx]? = some (dicR p kvs)) (kk : κ (nI kvs.length) M) : AM rLenD [rV (.ref p)] M κ := fun B G H vs o ra Q q => by
  obtain ⟨x, rfl, hx⟩ := ra1 ra
  obtain rfl : x = V.ref p := hx
  obtain ⟨ws, h2, h3⟩ := o.m _ (List.mem_of_getElem? hk)
  exact ⟨p, ws, rfl, .inl h2, q _ G H _ M kk o (Ex.refl _) (by rw [h3.len]; rfl)⟩
theorem ws_dputS {κ : Kn} (idx : Nat) (h : EW W Γ M tv (fun r M1 => EW W Γ M1 td (fun r1 M2 => ∃ p, r1 = rV (.ref p) ∧ EW W Γ M2 ta (fun r2 M3 => ∃ s kvs, r2 = rV (.str s) ∧ M3[idx]? = some (dicR p kvs) ∧ kvs.length < 50000 ∧ κ.nx Γ (M3.set idx (dicR p (putA kvs (.inr s) r)))) (κ.ex Γ)) (κ.ex Γ)) (κ.ex Γ)) : WP W Γ M (sDPut td ta tv) κ := ws_dput idx (by
  have key : ∀ (r2 : Rp) (M3 : List Re) (p : Addr) (r : Rp), (∃ s kvs, r2 = rV (.str s) ∧ M3[idx]? = some (dicR p kvs) ∧ kvs.length < 50000 ∧ κ.nx Γ (M3.set idx (dicR p (putA kvs (.inr s) r)))) → ∃ k kvs, r2 = rV (kV k) ∧ M3[idx]? = some (dicR p kvs) ∧ kvs.length < 50000 ∧ κ.nx Γ (M3.set idx (dicR p (putA kvs k r))) := fun r2 M3 p r ⟨s, kvs, h1, h2⟩ => ⟨.inr s, kvs, h1, h2⟩
  intro B G H σ o en Q q x
  refine h B G H σ o en Q (fun v G' H' r M' k o' e hv => q v G' H' r M' (fun B G H σ o en Q q x => k B G H σ o en Q (fun v G' H' r1 M' k o' e hv => q v G' H' r1 M' ?_ o' e hv) x) o' e hv) x
  obtain ⟨p, hp, k2⟩ := k
  exact ⟨p, hp, fun B G H σ o en Q q x => k2 B G H σ o en Q (fun v G' H' r2 M' k o' e hv => q v G' H' r2 M' (key _ _ _ _ k) o' e hv) x⟩)
theorem IX.map {β γ : Type} {ti : TI} {l : List β} {f : β → γ} {ρ : γ → Rp} (h : IX Γ ti (l.map f) ρ) : IX Γ ti l (fun b => ρ (f b)) := fun σ G en H e R q => h σ G en H e R fun G1 H1 J g it => q G1 H1 J g ⟨fun i H hi ex => it.goes i H (by rw [List.length_map]; exact hi) ex, fun H ex => by
    have := it.stops H ex
    rw [List.length_map] at this
    exact this, fun i H x H' hi ex y => by
    obtain ⟨h1, h2⟩ := it.yld i H x H' (by rw [List.length_map]; exact hi) ex y
    exact ⟨h1, fun a ha => h2 (f a) (by rw [List.getElem?_map, ha]; rfl)⟩⟩
theorem ix_KC {l : List Nat} (h : EvX Γ td (rD true kvs)) (e : kvs.map (·.1) = l.map fun c => Sum.inr (ltr c)) : IX Γ (iKeys td) l rC := by
  have z := ix_K h
  rw [e] at z
  exact z.map
end
theorem cr_sortedSK (K : PySem.W.Frag) {X : Cx} (hK : X.K = K := by rfl) : CallR X (.builtin "sorted") (rSortedS K) := by
  subst hK
  exact cr_sortedS
/-- for i, c in enumerate(s) -/
theorem w_forES {α : Type} {W : WX} {Γ : Ctx} {M : List Re} {K : PySem.W.Frag} {te : TE} {tu : TS} {κ : Kn} {j j' : Nat} {s : Str} (P : Nat → α → Prop) (Γi : Nat → α → Ctx) (Mi : Nat → α → List Re) (h : EvX Γ te (rV (.str s))) (a0 : α) (p0 : P 0 a0) (s0 : Sub Γ (Γi 0 a0)) (m0 : M = Mi 0 a0)
    (hs : ∀ i a c, s.cps.toList[i]? = some c → P i a → WP W (((Γi i a).set j (some (nI i))).set j' (some (rC c))) (Mi i a) tu (kLoop (LI P Γi Mi (i + 1)) κ)) (hd : ∀ a, P s.cps.toList.length a → κ.nx (Γi s.cps.toList.length a) (Mi s.cps.toList.length a)) : WP W Γ M (tFor (iEnS (tCons te tNil)) (gTup K 2 (gCons (gName j) (gCons (gName j') gNil))) tu) κ := fun B G H σ D o en d => by
  refine h σ G en H o.i _ fun v G1 H1 g1 hv => ?_
  obtain rfl : v = V.str s := hv
  have o1 := (o.gr g1).low (Ex.refl G1)
  have eb : Ex B.Gl G1 := o.l.trans g1.g
  have el : s.cps.toList.length = s.cps.size := by simp
  refine ⟨s, rfl, for_I (n := s.cps.toList.length) (fun i σ' H' => Pv (B.low G1) (LI P Γi Mi i) σ' H') ⟨G1, Γ, M, o1, en.mono g1.g, a0, p0, s0, m0⟩ (fun i σ' H' hi _ => (show i < s.cps.size by omega)) (fun σ' H' _ => el) (fun i σ' H' x H'' hi ⟨G2, Γ2, M2, o2, en2, a, pa, sa, ma⟩ y => ?_) (fun σ' H' ⟨G2, Γ2, M2, o2, en2, a, pa, sa, ma⟩ => ?_)⟩
  · obtain ⟨T, c, rfl, hT, rfl, hc⟩ := y
    subst ma
    have hb : s.cps.toList[i]? = some c := by simpa using hc
    have d2 := (d.low eb).loop (I := LI P Γi Mi (i + 1))
    refine ⟨T, _, rfl, st_of upd_same, rfl, _, _, rfl, _, _, rfl, rfl, ?_⟩
    exact hs i a c hb pa (B.low G1) G2 _ _ _ (o2.ex (Ex.new hT)) (((en2.weak sa).set (r := nI i) rfl j).set (r := rC c) rfl j') d2
  · subst ma
    exact d.nx _ G2 H' _ _ (o2.up eb) (en2.weak sa) (hd a pa)
end Mu

namespace Mu
open PySem PySem.Spec PyProof.Rows L2 He Evl
/-! ### texts by their code points -/
def sL (l : List Nat) : Str := ⟨l.toArray⟩
abbrev rSt (l : List Nat) : Rp := rV (.str (sL l))
section
variable {l l' : List Nat} {n : Nat}
theorem sL_cps : (sL l).cps.toList = l := rfl
theorem sL_len : (sL l).length = l.length := by show l.toArray.size = _; simp
theorem sL_of (s : Str) : sL s.cps.toList = s := by
  unfold sL
  cases s
  simp
theorem sL_app : sL l ++ sL l' = sL (l ++ l') := by
  show (⟨l.toArray ++ l'.toArray⟩ : Str) = ⟨(l ++ l').toArray⟩
  simp
theorem sL_inj : sL l = sL l' ↔ l = l' := by
  unfold sL
  constructor
  · intro h
    injection h with h
    simpa using h
  · intro h; rw [h]
theorem ltr_sL {c : Nat} : ltr c = sL [c] := rfl
theorem cutS_to (h : n ≤ l.length) : cutS (sL l) none (some (n : Int)) = sL (l.take n) := by
  unfold cutS
  rw [HT.sIx_none, HT.sIx_nat, sL_len, Nat.min_eq_left h, List.drop_zero, Nat.sub_zero]
  rfl
theorem cutS_from (h : n ≤ l.length) : cutS (sL l) (some (n : Int)) none = sL (l.drop n) := by
  unfold cutS
  rw [HT.sIx_none, HT.sIx_nat, sL_len, Nat.min_eq_left h]
  show sL (((l.drop n)).take (l.length - n)) = _
  rw [List.take_of_length_le (by rw [List.length_drop]; omega)]
end
section
variable {W : WX} {Γ : Ctx} {M : List Re} {te tb : TE} {κ : KV} {ε : KX} {l l' : List Nat} {n : Nat} {r1 r2 : Rp}
theorem e_sSTo (hb : EvX Γ tb (nI n)) (h : EW W Γ M te (fun r M1 => ∃ l, r = rSt l ∧ n ≤ l.length ∧ l.length ≤ 100000 ∧ κ (rSt (l.take n)) M1) ε) : EW W Γ M (tSl rSlS te tNoPart (tPart tb)) κ ε := fun B G H σ o en Q q x =>
  h B G H σ o en _ (fun v G1 H1 r M1 h1 o1 e1 hv => by
    obtain ⟨l, rfl, h2, h3, kk⟩ := h1
    obtain rfl : v = V.str (sL l) := hv
    refine hb σ G1 (en.mono e1) H1 o1.i _ fun w G2 H2 g2 hw => ?_
    obtain rfl : w = V.int (n : Int) := hw
    refine ⟨_, rfl, sL l, rfl, sz_of (by rw [sL_len]; exact h3), ?_⟩
    rw [cutS_to h2]
    exact q _ G2 H2 _ M1 kk (o1.gr g2) (e1.trans g2.g) rfl) x
theorem e_sSFrom (hb : EvX Γ tb (nI n)) (h : EW W Γ M te (fun r M1 => ∃ l, r = rSt l ∧ n ≤ l.length ∧ l.length ≤ 100000 ∧ κ (rSt (l.drop n)) M1) ε) : EW W Γ M (tSl rSlS te (tPart tb) tNoPart) κ ε := fun B G H σ o en Q q x =>
  h B G H σ o en _ (fun v G1 H1 r M1 h1 o1 e1 hv => by
    obtain ⟨l, rfl, h2, h3, kk⟩ := h1
    obtain rfl : v = V.str (sL l) := hv
    refine hb σ G1 (en.mono e1) H1 o1.i _ fun w G2 H2 g2 hw => ?_
    obtain rfl : w = V.int (n : Int) := hw
    refine ⟨_, rfl, sL l, rfl, sz_of (by rw [sL_len]; exact h3), ?_⟩
    rw [cutS_from h2]
    exact q _ G2 H2 _ M1 kk (o1.gr g2) (e1.trans g2.g) rfl) x
theorem om_addL (hl : l.length + l'.length ≤ 100000) (k : κ (rSt (l ++ l')) M) : OM rAddT (rSt l) (rSt l') M κ := om (x_is (x_addT (x_v rfl) (x_v rfl) (by rw [sL_len, sL_len]; exact hl)) (by rw [sL_app])) k
theorem om_ixT {c : Nat} (hl : l.length ≤ 100000) (hc : l[n]? = some c) (k : κ (rC c) M) : OM rIxS (rSt l) (nI n) M κ := om (x_ixS (x_v rfl) (x_v rfl) (by rw [sL_len]; exact hl) hc) k
theorem am_lenL (hl : l.length ≤ 100000) (k : κ (nI l.length) M) : AM rLenT [rSt l] M κ := am_lenT (by rw [sL_len]; exact hl) (by rw [sL_len]; exact k)
theorem ix_T (h : EvX Γ te (rSt l)) : IX Γ (iStr te) l rC := ix_S h
end
/-! ### for over what a reading with changes gives -/
section
variable {W : WX} {Γ : Ctx} {M : List Re} {tl : TE} {K : PySem.W.Frag} {j : Nat} {β α : Type} {l : List β} {ρ : β → Rp} {tu : TS} {κ : Kn} {B : Ba} {G1 H1 : Hp} {J : It} {σ : L2.St} {D : Ends}
theorem w_loop (P : Nat → α → Prop) (Γi : Nat → α → Ctx) (Mi : Nat → α → List Re) (it : Itm G1 J l ρ) (o : Ok B G1 H1 M) (en : En σ G1 Γ) (d : Dk B W D κ) (a0 : α) (p0 : P 0 a0) (s0 : Sub Γ (Γi 0 a0)) (m0 : M = Mi 0 a0)
    (hs : ∀ i a x, l[i]? = some x → P i a → WP W ((Γi i a).set j (some (ρ x))) (Mi i a) tu (kLoop (LI P Γi Mi (i + 1)) κ)) (hd : ∀ a, P l.length a → κ.nx (Γi l.length a) (Mi l.length a)) :
    ∃ W : Nat → Nat → L2.St → Hp → Prop, (∃ m, W 0 m σ H1) ∧ ∀ i m σ H, W i m σ H →
      (J.stop i H ∧ D.nx σ H) ∨ (J.go i H ∧ ∃ N : L2.St → Hp → Prop, (∀ σ' H', N σ' H' → ∃ m', m' < m ∧ W (i + 1) m' σ' H') ∧ ∀ x H', J.yld i H x H' → gName j x σ H' fun σ2 H2 => tu { D with nx := N, ct := N, bk := D.nx } σ2 H2) := by
  have o1 := o.low (Ex.refl G1)
  have eb : Ex B.Gl G1 := o.l
  refine for_I (n := l.length) (fun i σ' H' => Pv (B.low G1) (LI P Γi Mi i) σ' H') ⟨G1, Γ, M, o1, en, a0, p0, s0, m0⟩ (fun i σ' H' hi ⟨G2, _, _, o2, _⟩ => it.goes i H' hi (o2.l.trans o2.i)) (fun σ' H' ⟨G2, _, _, o2, _⟩ => it.stops H' (o2.l.trans o2.i)) (fun i σ' H' x H'' hi ⟨G2, Γ2, M2, o2, en2, a, pa, sa, ma⟩ y => ?_) (fun σ' H' ⟨G2, Γ2, M2, o2, en2, a, pa, sa, ma⟩ => ?_)
  · obtain ⟨rfl, hx⟩ := it.yld i H' x H'' hi (o2.l.trans o2.i) y
    subst ma
    obtain ⟨b, hb⟩ : ∃ b, l[i]? = some b := ⟨_, List.getElem?_eq_getElem hi⟩
    have d2 := (d.low eb).loop (I := LI P Γi Mi (i + 1))
    exact hs i a b hb pa (B.low G1) G2 _ _ _ o2 ((en2.weak sa).set ((ρ b).mono o2.l (hx b hb)) j) ⟨fun σ G H Γ M o en z => d2.nx σ G H Γ M o en z, d2.rt, d2.bk, fun σ G H Γ M o en z => d2.ct σ G H Γ M o en z, d2.ex⟩
  · subst ma
    exact d.nx _ G2 H' _ _ (o2.up eb) (en2.weak sa) (hd a pa)
theorem itm_L {a : Addr} {ws : List V} (h1 : G1 a = some (.lst ws)) (h2 : RA G1 ws (l.map ρ)) : Itm G1 (Itl K a) l ρ := by
  have el : ws.length = l.length := by rw [h2.len, List.length_map]
  refine ⟨fun i H' hi ex => ?_, fun H' ex => ⟨ws, sq_of (ex _ _ h1), by omega⟩, fun i H' x H'' hi ex y => ?_⟩
  · exact ⟨ws, ws[i]'(by omega), sq_of (ex _ _ h1), List.getElem?_eq_getElem (by omega)⟩
  · obtain ⟨y1, y2⟩ := y
    refine ⟨y1, fun b hb => ?_⟩
    obtain ⟨r, hr, hx⟩ := h2.getV (y2 ws (sq_of (ex _ _ h1)))
    rw [List.getElem?_map, hb] at hr
    cases hr
    exact hx
theorem w_forEv (h : EW W Γ M tl (fun r M1 => ∃ (l : List β) (ρ : β → Rp) (P : Nat → α → Prop) (Γi : Nat → α → Ctx) (Mi : Nat → α → List Re) (a0 : α), r = rL K (l.map ρ) ∧ P 0 a0 ∧ Sub Γ (Γi 0 a0) ∧ M1 = Mi 0 a0 ∧ (∀ i a x, l[i]? = some x → P i a → WP W ((Γi i a).set j (some (ρ x))) (Mi i a) tu (kLoop (LI P Γi Mi (i + 1)) κ)) ∧ (∀ a, P l.length a → κ.nx (Γi l.length a) (Mi l.length a))) (κ.ex Γ)) : WP W Γ M (tFor (iList K tl) (gName j) tu) κ := fun B G H σ D o en d =>
  h B G H σ o en _ (fun v G1 H1 r M1 z o1 e1 hv => by
    obtain ⟨l, ρ, P, Γi, Mi, a0, rfl, p0, s0, m0, hs, hd⟩ := z
    obtain ⟨a, ws, rfl, h1, h2⟩ := hv
    exact ⟨a, rfl, ⟨ws, sq_of (o1.i _ _ h1)⟩, w_loop P Γi Mi (itm_L h1 h2) o1 (en.mono e1) d a0 p0 s0 m0 hs hd⟩) (fun cls fs dd G' H' M' k o' e' xd => d.ex σ G' H' Γ M' cls dd fs o' (en.mono e') xd k)
end
end Mu

namespace Mu
open PySem PySem.Spec PyProof.Rows L2 He Evl
/-! ### [e for x in .. for y in .. if ..] -/
section
variable {Γ : Ctx} {te : TE} {t1 : TT} {j j1 : Nat} {vs vs1 : List Nat} {β γ : Type} {ti ti1 : TI} {l : List β} {ρ : β → Rp} {l1 : β → List γ} {ρ1 : β → γ → Rp} {f1 : β → γ → Bool} {rr : β → γ → Rp}
theorem flat_len {F : β → List Rp} {n : Nat} : ∀ {l : List β}, (∀ a ∈ l, (F a).length ≤ n) → (l.flatMap F).length ≤ l.length * n
  | [], _ => by simp
  | a :: l, h => by
    rw [List.flatMap_cons, List.length_append, List.length_cons, Nat.succ_mul]
    have := h a List.mem_cons_self
    have := flat_len (l := l) fun b hb => h b (List.mem_cons_of_mem _ hb)
    omega
theorem xn_lc2I (h : IX Γ ti l ρ) (hz : l.length ≤ 150) (hz1 : ∀ a ∈ l, (l1 a).length ≤ 150) (h1 : ∀ a, a ∈ l → IX ((wipeC Γ vs).set j (some (ρ a))) ti1 (l1 a) (ρ1 a)) (ht : ∀ a b, a ∈ l → b ∈ l1 a → EvTX ((wipeC ((wipeC Γ vs).set j (some (ρ a))) vs1).set j1 (some (ρ1 a b))) t1 (f1 a b)) (he : ∀ a b, a ∈ l → b ∈ l1 a → f1 a b = true → EvX ((wipeC ((wipeC Γ vs).set j (some (ρ a))) vs1).set j1 (some (ρ1 a b))) te (rr a b)) (hj : j ∈ vs) (hj1 : j1 ∈ vs1) : EvNX Γ (tLc2 ti (gName j) tYes ti1 (gName j1) t1 te vs vs1) (l.flatMap fun a => ((l1 a).filter (f1 a)).map (rr a)) := fun σ G en H0 e Q q => by
  refine h σ G en H0 e _ fun G1 H1 J g1 it Dl hD => ?_
  have hF : ∀ a ∈ l, (((l1 a).filter (f1 a)).map (rr a)).length ≤ 150 := fun a ha => by
    rw [List.length_map]
    exact Nat.le_trans (List.length_filter_le _ _) (hz1 a ha)
  refine ⟨fun i m H' => m = l.length - i ∧ i ≤ l.length ∧ Cm G1 H1 Dl ((l.take i).flatMap fun a => ((l1 a).filter (f1 a)).map (rr a)) H', ⟨l.length, by simp, Nat.zero_le _, cm_start g1.i hD⟩, ?_⟩
  rintro i m H' ⟨rfl, hi, p⟩
  by_cases c : i < l.length
  · obtain ⟨p1, G', ws, g, hG, hD', ra⟩ := p
    refine .inr ⟨it.goes i H' c (g.g.trans g.i), fun H' => Cm G1 H1 Dl ((l.take (i + 1)).flatMap fun a => ((l1 a).filter (f1 a)).map (rr a)) H', fun H2 p' => ⟨l.length - (i + 1), by omega, rfl, c, p'⟩, fun x H2 y => ?_⟩
    obtain ⟨rfl, hx⟩ := it.yld i H' x H2 c (g.g.trans g.i) y
    obtain ⟨a, ha⟩ : ∃ a, l[i]? = some a := ⟨_, List.getElem?_eq_getElem c⟩
    have hm := List.mem_of_getElem? ha
    have en2 : En ((wipe σ vs).set j (some x)) G' ((wipeC Γ vs).set j (some (ρ a))) := en_at (en.mono (g1.g.trans g.g)) ((ρ a).mono g.g (hx a ha))
    refine ⟨wipe_turn σ hj _, yes_ite ?_⟩
    refine h1 a hm _ G' en2 _ g.i _ fun G3 H3 J1 g3 it1 => ?_
    have hlen : ∀ k, ((l.take i).flatMap (fun a => ((l1 a).filter (f1 a)).map (rr a)) ++ (((l1 a).take k).filter (f1 a)).map (rr a)).length < 50000 := fun k => by
      rw [List.length_append, List.length_map]
      have z1 := flat_len (F := fun a => ((l1 a).filter (f1 a)).map (rr a)) (n := 150) (l := l.take i) (fun b hb => hF b (List.mem_of_mem_take hb))
      have z2 : (l.take i).length * 150 ≤ 150 * 150 := Nat.mul_le_mul (by rw [List.length_take]; omega) (Nat.le_refl _)
      have z3 := List.length_filter_le (f1 a) ((l1 a).take k)
      have z4 : ((l1 a).take k).length ≤ 150 := by rw [List.length_take]; have := hz1 a hm; omega
      omega
    refine ⟨fun k m' H5 => m' = (l1 a).length - k ∧ k ≤ (l1 a).length ∧ ∃ G4 ws, Gr G1 H1 G4 H5 ∧ Ex G3 G4 ∧ G4 Dl = none ∧ H5 Dl = some (.lst ws) ∧ RA G4 ws ((l.take i).flatMap (fun a => ((l1 a).filter (f1 a)).map (rr a)) ++ (((l1 a).take k).filter (f1 a)).map (rr a)), ⟨(l1 a).length, by simp, Nat.zero_le _, G3, ws, g.trans g3, Ex.refl _, g3.n _ _ hD' hG, g3.h _ _ hD', by
      rw [List.take_zero, List.filter_nil, List.map_nil, List.append_nil]
      exact ra.mono g3.g⟩, ?_⟩
    rintro k m' H5 ⟨rfl, hk, G4, ws4, g4, e34, hG4, hD4, ra4⟩
    by_cases ck : k < (l1 a).length
    · refine .inr ⟨it1.goes k H5 ck (e34.trans g4.i), fun H5 => ∃ G4 ws, Gr G1 H1 G4 H5 ∧ Ex G3 G4 ∧ G4 Dl = none ∧ H5 Dl = some (.lst ws) ∧ RA G4 ws ((l.take i).flatMap (fun a => ((l1 a).filter (f1 a)).map (rr a)) ++ (((l1 a).take (k + 1)).filter (f1 a)).map (rr a)), fun H6 p' => ⟨(l1 a).length - (k + 1), by omega, rfl, ck, p'⟩, fun x1 H6 y1 => ?_⟩
      obtain ⟨rfl, hx1⟩ := it1.yld k H5 x1 H6 ck (e34.trans g4.i) y1
      obtain ⟨b, hb⟩ : ∃ b, (l1 a)[k]? = some b := ⟨_, List.getElem?_eq_getElem ck⟩
      have hbm := List.mem_of_getElem? hb
      have en3 := en_at (vs := vs1) (j := j1) (en2.mono (g3.g.trans e34)) ((ρ1 a b).mono e34 (hx1 b hb))
      refine ⟨wipe_turn _ hj1 _, ?_⟩
      refine ht a b hm hbm _ G4 en3 _ g4.i _ fun H7 e7 => ?_
      have g7 := g4.more e7
      rw [filter_take_succ hb]
      cases q2 : f1 a b with
      | true =>
        show te _ H7 fun y H8 => _
        refine he a b hm hbm q2 _ G4 en3 H7 g7.i _ fun y G8 H8 g8 hy => ?_
        have hD8 := g8.h _ _ (e7 _ _ hD4)
        have gD8 := g8.n _ _ (e7 _ _ hD4) hG4
        have q := g7.trans g8
        refine ⟨ws4, hD8, sz_lt (by rw [ra4.len]; have := hlen k; omega), G8, ws4 ++ [y], ⟨q.g, Ex.mut q.h p1, Ex.mut q.i gD8, q.n⟩, e34.trans g8.g, gD8, upd_same, ?_⟩
        rw [if_pos rfl, ← List.append_assoc]
        exact (ra4.mono g8.g).snoc hy
      | false =>
        refine ⟨G4, ws4, g7, e34, hG4, e7 _ _ hD4, ?_⟩
        rw [if_neg (by decide), List.append_nil]
        exact ra4
    · have ek : k = (l1 a).length := by omega
      subst ek
      refine .inl ⟨it1.stops H5 (e34.trans g4.i), p1, G4, ws4, g4, hG4, hD4, ?_⟩
      rw [List.take_length] at ra4
      rw [List.take_add_one, ha, List.flatMap_append]
      simpa using ra4
  · have ei : i = l.length := by omega
    subst ei
    obtain ⟨p1, G', ws, g, hG, hD', ra⟩ := p
    rw [List.take_length] at ra
    exact .inl ⟨it.stops H' (g.g.trans g.i), q Dl ws G' H' (g1.trans g) (fresh_back g1.h p1) hG hD' ra⟩
end
end Mu

namespace Mu
open PySem PySem.Spec PyProof.Rows L2 He Evl
/-! ### a != b of a class with __eq__ alone -/
structure NeD (K : PySem.W.Frag) (C : Addr) : Prop where
  ne : PySem.W.findIn K (.ref C) "__ne__" = some (some (.builtin "object.__ne__"))
  ob : PySem.W.subIn K (.ref C) (.type "object") = some true
theorem neB_ok {K : PySem.W.Frag} {C : Addr} (h : neB K C = true) : NeD K C := by
  obtain ⟨h1, h2⟩ := Bool.and_eq_true_iff.mp h
  exact ⟨of_decide_eq_true h1, of_decide_eq_true h2⟩
section
variable {prog : Program} {w : World} {A : Around} {E : Value → Shared → Prop} {s : Shared} {K : PySem.W.Frag} {x C f : Addr} {ox : Obj} {od : Option Obj} {name : Str} {b : Value}
theorem ifBound_B {M : Model} {B id : String} {args : List Value} {Q : Option Value → Shared → Prop} (X : K.In s.heap) (I : PySem.W.InstAt s.heap x ox C od) (hs : PySem.W.findIn K (.ref C) name = some (some (.builtin id))) (S : Slot B name id)
    (h : wpAny M A (call (.builtin id) (.ref x :: args)) (fun v => Q (some v)) E s) : wpAny M A (callSpecialIfBound? (.ref x) name args) Q E s := by
  simp only [callSpecialIfBound?, bindSpecialIfBound?]
  refine wpAny_holding (wpAny_bind (wpAny_bind (wpAny_bind (I.type.here ((PySem.W.looks_findIn X hs).here ?_)))))
  simp only [S.bind]
  refine wpAny_bind (wpAny_askSetting (wpAny_ite ?_))
  have fin : wpAny M A (call (.builtin id) ([.ref x] ++ args) >>= fun v => pure (some v)) Q E s := wpAny_bind (wpAny_mono h (fun v s' h' => wpAny_pure h') fun _ _ h' => h')
  split
  · exact wpAny_bind (wpAny_pure (wpAny_pure fin))
  · exact wpAny_tryCatch (wpAny_bind (wpAny_pure (wpAny_pure fin)))
theorem check_slot {M : Model} {id owner n : String} {rest : List Value} {Q : Unit → Shared → Prop} (X : K.In s.heap) (I : PySem.W.InstAt s.heap x ox C od) (hk : builtinKind id = some .slot) (hs : splitId id = some (owner, n))
    (ha : argsOk id ⟨.ref x :: rest, []⟩) (ho : PySem.W.subIn K (.ref C) (.type owner) = some true) (hq : Q () s) : wpAny M A (checkBuiltinCall id ⟨.ref x :: rest, []⟩) Q E s := by
  simp only [checkBuiltinCall, hk, hs]
  refine wpAny_bind ?_
  unfold isInstance
  refine wpAny_bind (I.type.here ((PySem.W.looks_subIn X ho).here ?_))
  repeat (first | wp_step)
  cases hsig : Manifest.signature? id with
  | none => exact wpAny_pure hq
  | some sig =>
    simp only [argsOk, hsig] at ha
    have h2 : Bind.checkArgs id sig ⟨.ref x :: rest, []⟩ = pure () := ha
    show wpAny M A (Bind.checkArgs id sig ⟨.ref x :: rest, []⟩) Q E _
    rw [h2]; exact wpAny_pure hq
theorem objNe_K (X : K.In s.heap) (I : PySem.W.InstAt s.heap x ox C od) (d : Dun K C "__eq__" f) (hu : A.units < cLine) {Q : Fin → Shared → Prop}
    (hcall : wpAny (model prog w) A (call (.ref f) [.ref x, b]) (fun v s' => ∃ c, v = .bool c ∧ Q (.done (.ret (.bool (!c)))) s') E s) :
    wpAny (model prog w) A (Builtin.«object.__ne__» ⟨[.ref x, b], []⟩) Q E s := by
  unfold Builtin.«object.__ne__»
  repeat (first
    | with_reducible refine wpAny_cRoomFor hu ?_
    | (refine wpAny_bind (m := callSpecialIfBound? (.ref x) (Str.ofString "__eq__") [b])
        (PySem.W.ifBound_K X I d.at_ d.fn (wpAny_mono hcall (fun r s' hr => by
          obtain ⟨c, rfl, hq⟩ := hr
          repeat (first | exact hq | exact wpAny_pure hq | exact wpAny_truthy_bool hq | (refine wpAny_bind (m := truthy (.bool _)) (wpAny_truthy_bool ?_)) | wp_step)) fun _ _ e => e)))
    | wp_step)
theorem tryNe_K (X : K.In s.heap) (I : PySem.W.InstAt s.heap x ox C od) (N : NeD K C) (d : Dun K C "__eq__" f) (hu : A.units + 1 < cLine) {Q : Option Value → Shared → Prop}
    (hcall : wpAny (model prog w) A.in1 (call (.ref f) [.ref x, b]) (fun v s' => ∃ c, v = .bool c ∧ Q (some (.bool (!c))) s') E s) :
    wpAny (model prog w) A (tryCompare (.ref x) "__ne__" b) Q E s := by
  simp only [tryCompare]
  refine wpAny_bind (ifBound_B X I N.ne PySem.F.cmp_object.ne (wpAny_call (codeAny_call_builtin PySem.F.cmp_object.ne.plain PySem.F.cmpEntry_ne
    (check_slot (A := A.in1) X I PySem.F.cmpKind_ne PySem.F.cmpSplit_ne (PySem.F.cmpArgs_ne _ _) N.ob
      (objNe_K (A := A.in1) X I d hu (wpAny_mono hcall (fun v s' hv => ?_) fun _ _ e => e))))))
  obtain ⟨c, rfl, hq⟩ := hv
  first | exact ⟨c, rfl, wpAny_pure hq⟩ | exact ⟨c, rfl, wpAny_pure (wpAny_pure hq)⟩ | exact ⟨c, rfl, hq⟩
theorem ne_K (X : K.In s.heap) (I : PySem.W.InstAt s.heap x ox C od) {y : Addr} (hb : PySem.W.Looks (model prog w) s.heap (typeOf (.ref y)) (.ref C)) (N : NeD K C) (d : Dun K C "__eq__" f) (hu : A.units + 1 < cLine) {Q : Value → Shared → Prop}
    (hcall : wpAny (model prog w) A.in1 (call (.ref f) [.ref x, .ref y]) (fun v s' => ∃ c, v = .bool c ∧ Q (.bool (!c)) s') E s) :
    wpAny (model prog w) A (richCompare .NotEq (.ref x) (.ref y)) Q E s := by
  unfold richCompare
  simp only [oneThing_ref]
  refine wpAny_holding (wpAny_bind (wpAny_cRoomFor (Nat.lt_of_succ_lt hu) ?_))
  rw [cmpInfo_NotEq]
  dsimp only
  refine wpAny_bind (I.type.here (wpAny_bind (hb.here ?_)))
  rw [show (Value.ref C != Value.ref C) = false from by simp]
  simp only [Bool.false_eq_true, if_false]
  try refine wpAny_bind (wpAny_pure ?_)
  simp only [Bool.false_eq_true, if_false]
  refine wpAny_bind (tryNe_K X I N d hu (wpAny_mono hcall (fun v s' hv => ?_) fun _ _ e => e))
  obtain ⟨c, rfl, hq⟩ := hv
  first | exact ⟨c, rfl, wpAny_pure hq⟩ | exact ⟨c, rfl, wpAny_pure (wpAny_pure hq)⟩
end
section
variable {X : Cx} {CX : CXT} {k : Nat} {f C : Addr} {fd : FuncData} {ps : List Str} {sp : Sp} {E : XK}
def rOwnNe (C : Addr) (sp : Sp) (E : XK) : R2 := fun x y H Q => ∃ a b dx fs dy gs, x = .ref a ∧ y = .ref b ∧ H a = some (.ins C dx fs) ∧ H b = some (.ins C dy gs) ∧ sp [.ref a, .ref b] H (fun v H' => ∃ c, v = .bl c ∧ Q (.bl (!c)) H') E
theorem ne_own (N : NeD X.K C) (d : Dun X.K C "__eq__" f) (F : FnOk X.prog X.w X.K X.mg X.base CX k f fd ps sp) (hr : Room (k + 1) X.A) (hb : Binds X.K fd ps []) (hx : Passes CX X E) : OpR X (compareOp .NotEq) (rOwnNe C sp E) := by
  intro pins s σ H x y u v Q I rx ry h
  obtain ⟨a, b, dx, fs, dy, gs, rfl, rfl, ha, hb', q⟩ := h
  cases rx
  cases ry
  obtain ⟨mA, J, _⟩ := ins_get I.hok ha
  obtain ⟨mB, J', _⟩ := ins_get I.hok hb'
  obtain ⟨od, J, _⟩ := J.look
  obtain ⟨od', J', _⟩ := J'.look
  obtain ⟨m0, hF⟩ := I.fr
  have kin := I.ok.mod.kin.keeps hF.keep
  show wpAny _ _ (richCompare .NotEq (.ref a) (.ref b)) _ _ _
  refine ne_K kin J J'.type N d hr.u1 ?_
  refine wpAny_mono (run_fnA (A := X.A.in1) (vs := [.ref a, .ref b]) rfl F hr.in1 hb hx I (.cons rfl (.cons rfl .nil)) q) (fun z s' h => ?_) (fun _ _ z => z)
  obtain ⟨zv, H', I', rz, c, rfl, q'⟩ := h
  cases (show z = Value.bool c from rz)
  exact ⟨c, rfl, .bl (!c), H', I', rfl, q'⟩
theorem x_tne {K : PySem.W.Frag} {Γ : Ctx} {ta tb : TE} {m m' : List Nat} {c : Bool} (ha : EvX Γ ta (rTab K C m)) (hb : EvX Γ tb (rTab K C m')) (hs : ∀ x y G, (rTab K C m).p x G → (rTab K C m').p y G → SpD sp [x, y] G (rB c)) : EvX Γ (tOp (rOwnNe C sp E) ta tb) (rB (!c)) := fun σ G en =>
  ed_op (ha σ G en) (hb σ G en) fun x y G2 H e1 e2 hx hy Q q => by
    obtain ⟨a, dx, t, c', rfl, h2, _⟩ := id hx
    obtain ⟨a', dx', t', c'', rfl, h2', _⟩ := id hy
    refine ⟨a, a', dx, _, dx', _, rfl, rfl, e2 _ _ h2, e2 _ _ h2', hs _ _ G2 hx hy H e2 _ (fun v G3 H3 g hv => ?_) E⟩
    obtain rfl : v = V.bl c := hv
    exact ⟨c, rfl, q (.bl (!c)) G3 H3 g rfl⟩
end
/-! ### isinstance of texts -/
section
variable {K : PySem.W.Frag} {Γ : Ctx} {te : TE} {s : Str}
theorem x_isIntS (h : EvX Γ te (rV (.str s))) : EvX Γ (tCB (rIsi K) (tCons te (tCons (tC (.ty "int")) tNil))) (rB false) := fun σ G en => Ev.d (ev_isi (h σ G en) (.ty _) fun v H hv => ⟨_, by obtain rfl : v = V.str s := hv; exact .base (.str s), kit_ty (by decide +kernel)⟩)
theorem x_isStrS (h : EvX Γ te (rV (.str s))) : EvX Γ (tCB (rIsi K) (tCons te (tCons (tC (.ty "str")) tNil))) (rB true) := fun σ G en => Ev.d (ev_isi (h σ G en) (.ty _) fun v H hv => ⟨_, by obtain rfl : v = V.str s := hv; exact .base (.str s), kit_same⟩)
end
end Mu

namespace Mu
open PySem PySem.Spec PyProof.Rows L2 He Evl
/-! ### several clauses 'except C as n' -/
abbrev Cl := Value × (Addr → Value → Option Addr → TS)
def wAll (K : PySem.W.Frag) (i : Nat) (D : Ends) (Wo : WX) : List Cl → WX
  | [] => Wo
  | h :: r => wAs K h.1 i h.2 (wAll K i D Wo r) D
inductive HdA (X : Cx) (n : Str) : List ExceptHandler → List Cl → Prop
  | nil : HdA X n [] []
  | cons {x : Str} {c : Value} {ts : Addr → Value → Option Addr → TS} {s0 : Stmt} {ss : List Stmt} {p1 p2 : Pos} {hs : List ExceptHandler} {l : List Cl} (hc : Names X x c) (hu : ∀ (a : Addr) (oe : Obj) (cls : Value) (d : Option Addr) (pn : List (Addr × Obj)), L2N.Zn cls d oe → (∃ vs, oe.data = .fields vs) → PSs (X.suite a ((a, oe) :: pn)) (s0 :: ss) (ts a cls d)) (r : HdA X n hs l) : HdA X n (.ExceptHandler (some (.Name x p1)) (some n) (s0 :: ss) p2 :: hs) ((c, ts) :: l)
section
variable {X : Cx} {n : Str} {i : Nat} {body : List Stmt} {h0 : ExceptHandler} {hds : List ExceptHandler} {l : List Cl} {pos : Pos} {tb : WX → TS} {Wo : WX}
theorem ps_tryA (hs : X.stack = X.env :: X.outer) (hf : X.env.frame = some X.env.locals) (hN : X.N.Nodup) (hi : X.N[i]? = some n) (hl : X.env.kindOf n = some .local) (tk : L2N.Takes X Wo)
    (hb : ∀ (W : WX) (pn : List (Addr × Obj)) (xe : Value → Shared → Prop), L2N.Takes (X.tr pn xe) W → PassesOwn (model X.prog X.w) X.A X.env xe → PSs (X.tr pn xe) body (tb W)) (hh : HdA X n (h0 :: hds) l) : PS X (.Try body (h0 :: hds) [] [] pos) (fun D σ H => tb (wAll X.K i D Wo l) D σ H) := by
  constructor
  intro pins s σ H D I h
  have ok := I.ok
  have fr0 : X.A.frames = some (X.env :: X.outer) := ok.frames.trans (congrArg some hs)
  have hloc : Loc X.env.scope n := .inl hl
  let W1 := wAll X.K i D Wo l
  let xe1 : Value → Shared → Prop := fun e s1 => wpAny (model X.prog X.w) X.A (noteFrame e X.env) (fun _ s2 => wpAny (model X.prog X.w) X.A (setFlight e none) (fun _ s3 => wpAny (model X.prog X.w) X.A (handleBy e X.env (h0 :: hds)) (SP X pins D) X.xe s3) X.xe s2) X.xe s1
  have caught : L2N.Takes (X.tr (X.pn ++ pins) xe1) W1 := by
    intro u s' xx
    obtain ⟨a, B, sI, pins', σ', H', cls, d, rfl, J', nb, up, sky, na, os, ag, z⟩ := xx
    have J : Inv X pins σ' H' sI := J'.ofTry ok
    have sky2 : Sky B (X.env :: X.outer) a (L2N.Zn cls d) X.env.locals s'.heap := hs ▸ sky
    show wpAny (model X.prog X.w) X.A (noteFrame (.ref a) X.env) _ _ _
    refine L2N.Sky.land L2N.Zn.steady fr0 hf sky2 fun g3 fl3 up3 => ?_
    have J3 : Inv X pins σ' H' { s' with heap := g3 } := J.landed nb fl3.1 (up.trans up3) os ag
    obtain ⟨o3, v3, at3, z3, d3⟩ := fl3.there
    have away : a ∉ frs (X.env :: X.outer) := fun hm => by
      obtain ⟨_, o', e', hn⟩ := fl3.2.2.1.mem hm
      rw [at3] at e'
      cases e'
      exact hn _ d3
    have ne1 : a ≠ X.env.locals := fun q => away (List.mem_filterMap.mpr ⟨X.env, List.mem_cons_self, hf.trans (congrArg some q.symm)⟩)
    have ne2 : a ∉ X.fs := fun hm => by
      obtain ⟨e, he, q⟩ := List.mem_filterMap.mp hm
      exact away (List.mem_filterMap.mpr ⟨e, List.mem_cons_of_mem _ he, q⟩)
    have S3 := J3.suite at3 d3 na ne1 ne2
    have ty : PySem.W.Looks (model X.prog X.w) g3 (typeOf (.ref a)) cls := fun A Q E s k q => wpAny_typeOf_ref (k _ _ at3) (z3.1 ▸ q)
    suffices go : ∀ {hs' : List ExceptHandler} {l' : List Cl}, HdA X n hs' l' → wAll X.K i D Wo l' cls d σ' H' → wpAny (model X.prog X.w) X.A (handleBy (.ref a) X.env hs') (SP X pins D) X.xe { s' with heap := g3 } from go hh z
    intro hs' l' hk
    induction hk with
    | nil =>
      intro w
      refine wpAny_handleBy_nil ?_
      obtain ⟨k1, k2, k3, oe, vs, Tb, oT, ts', he, hz, hd, hv1, hr⟩ := id fl3
      unfold PySem.passOn
      refine wpAny_bind (wpAny_field he hd hv1 ?_)
      have neT : ¬ ((Value.ref Tb == Value.none) = true) := by simp
      rw [if_neg neT]
      have on : wpAny (model X.prog X.w) X.A (setFlight (.ref a) X.env.frame) (fun _ s4 => wpAny (model X.prog X.w) X.A (throw (.ref a) : Sem Flow) (SP X pins D) X.xe s4) X.xe { s' with heap := g3 } := by
        rw [hf]
        refine HandSPX.setFlight_upZ fl3 fun g4 q4 up4 => wpAny_throw (tk _ _ ?_)
        exact ⟨a, B, sI, pins, σ', H', cls, d, rfl, J, nb, (up.trans up3).trans up4, .inr (.inr (hs ▸ q4)), na, os, ag, w⟩
      first | exact wpAny_bind (wpAny_pure (wpAny_bind on)) | exact wpAny_bind on
    | @cons x c ts s0 ss p1 p2 hs2 l2 hc hu r ih =>
      intro w
      obtain ⟨b, hb1, yes, no⟩ := w
      refine wpAny_handleBy_cons (codeAny_handlers_test ?_) (fun q => nomatch q)
      have lm := PySem.W.exm_one (M := model X.prog X.w) (J3.kIn) ty hb1
      have nm : ∀ {Q : Value → Shared → Prop} {E : Value → Shared → Prop}, Q c { s' with heap := g3 } → wpAny (model X.prog X.w) (X.A.mark (some (.ref a))) (eval (.Name x p1) X.env) Q E { s' with heap := g3 } := fun {Q E} q => by
        obtain ⟨hg, hdb, hm | ⟨hm, hv, hnn⟩⟩ := hc
        · exact ld_glob (X := X.suite a ((a, o3) :: (X.pn ++ pins))) S3 hg hm q hdb
        · exact ld_blt (X := X.suite a ((a, o3) :: (X.pn ++ pins))) S3 hg hm hv q hnn hdb
      refine nm (lm.here ?_)
      cases b with
      | false =>
        show wpAny _ X.A (handleBy (.ref a) X.env hs2) _ _ _
        exact ih (no rfl)
      | true =>
        refine codeAny_handlers_suite_as (HandSPX.lands_againZ fl3 fun g4 fl4 up4 => ?_)
        have J4 : Inv X pins σ' H' { s' with heap := g4 } := J.landed nb fl4.1 ((up.trans up3).trans up4) os ag
        obtain ⟨o4, v4, at4, z4, d4⟩ := fl4.there
        refine store_ok (X := X.suite a ((a, o4) :: (X.pn ++ pins))) (v := .ref a) (J4.suite at4 d4 na ne1 ne2) hN hi hloc rfl (fun s5 S5 => ?_) (.inr hl)
        refine wpAny_mono ((hu a o4 cls d (X.pn ++ pins) z4 ⟨_, d4⟩).run [] s5 _ H' _ S5 (yes rfl a na)) (fun fl s6 hsp => ?_) (fun _ _ q => q.elim)
        have fin : ∀ {σ6 : L2.St} {H6 : Hp} {Q : Shared → Prop}, Inv (X.suite a ((a, o4) :: (X.pn ++ pins))) [] σ6 H6 s6 → (∀ s7, Inv X pins (σ6.set i none) H6 s7 → Q s7) → wpAny (model X.prog X.w) X.A (do bindName X.env n .none; unbindBehindTheSuite X.env n p2) (fun _ s7 => Q s7) X.xe s6 := fun S6 hq => gone_ok (S6.unsuite ok) hN hi hl hq
        cases fl with
        | next => obtain ⟨σ6, H6, S6, q6⟩ := hsp; exact fin S6 fun s7 J7 => ⟨_, _, J7, q6⟩
        | brk => obtain ⟨σ6, H6, S6, q6⟩ := hsp; exact fin S6 fun s7 J7 => ⟨_, _, J7, q6⟩
        | cont => obtain ⟨σ6, H6, S6, q6⟩ := hsp; exact fin S6 fun s7 J7 => ⟨_, _, J7, q6⟩
        | ret u => obtain ⟨v6, σ6, H6, S6, r6, q6⟩ := hsp; exact fin S6 fun s7 J7 => ⟨_, _, _, J7, r6, q6⟩
  refine wpAny_Try_except (wpAny_mono ((hb W1 (X.pn ++ pins) xe1 caught PassesOwn.looking).run [] s σ H D (I.toTry _) h) (fun fl s1 hsp => ?_) (fun e s1 he => he))
  cases fl with
  | next => obtain ⟨σ', H', J', q⟩ := hsp; exact wpAny_execs_nil ⟨σ', H', J'.ofTry ok, q⟩
  | brk => obtain ⟨σ', H', J', q⟩ := hsp; exact ⟨σ', H', J'.ofTry ok, q⟩
  | cont => obtain ⟨σ', H', J', q⟩ := hsp; exact ⟨σ', H', J'.ofTry ok, q⟩
  | ret u => obtain ⟨v, σ', H', J', r, q⟩ := hsp; exact ⟨v, σ', H', J'.ofTry ok, r, q⟩
end
def tTryA (K : PySem.W.Frag) (i : Nat) (tb : WX → TS) (l : List Cl) (W : WX) : TS := fun D σ H => tb (wAll K i D W l) D σ H
theorem to_tryA {X : Cx} {st : Stmt} {K : PySem.W.Frag} {i : Nat} {tb : WX → TS} {l : List Cl} {W : WX} (h : PS X st (fun D σ H => tb (wAll K i D W l) D σ H)) : PS X st (tTryA K i tb l W) := h
section
variable {W : WX} {Γ : Ctx} {M : List Re} {K : PySem.W.Frag} {i : Nat} {tb : WX → TS} {κ : Kn}
def exAll (K : PySem.W.Frag) (i : Nat) (κ : Kn) : List Cl → Ctx → Value → List (Str × V) → List Re → Prop
  | [] => κ.ex
  | h :: r => fun Γ' cls fs M' => ∃ b, PySem.W.exmOne K cls h.1 = some b ∧ (b = true → ∀ a d, (fs ≠ [] → d.isSome = true) → WP (fun _ _ _ _ => False) (Γ'.set i (some (rE a fs d))) M' (h.2 a cls d) { nx := fun Γ2 M2 => κ.nx (Γ2.set i none) M2, rt := κ.rt, bk := fun Γ2 M2 => κ.bk (Γ2.set i none) M2, ct := fun Γ2 M2 => κ.ct (Γ2.set i none) M2 }) ∧ (b = false → exAll K i κ r Γ' cls fs M')
theorem w_tryA {l : List Cl} (h : ∀ W', WP W' Γ M (tb W') { κ with ex := exAll K i κ l }) : WP W Γ M (tTryA K i tb l W) κ := fun B G H σ D ok en d =>
  h _ B G H σ D ok en ⟨d.nx, d.rt, d.bk, d.ct, fun σ' G' H' Γ' M' cls dd fs o' en' xd z => by
    clear h
    induction l with
    | nil => exact d.ex σ' G' H' Γ' M' cls dd fs o' en' xd z
    | cons c r ih =>
      obtain ⟨b, h1, h2, h3⟩ := z
      refine ⟨b, h1, fun hb a ha => ?_, fun hb => ih (h3 hb)⟩
      refine h2 hb a dd (fun hf => ?_) B G' H' _ _ o' (en'.set (r := rE a fs dd) ⟨rfl, xd⟩ i) ⟨fun σ2 G2 H2 Γ2 M2 o2 en2 q => d.nx _ G2 H2 _ M2 o2 (en2.wipe1 i) q, d.rt, fun σ2 G2 H2 Γ2 M2 o2 en2 q => d.bk _ G2 H2 _ M2 o2 (en2.wipe1 i) q, fun σ2 G2 H2 Γ2 M2 o2 en2 q => d.ct _ G2 H2 _ M2 o2 (en2.wipe1 i) q, fun _ _ _ _ _ _ _ _ _ _ _ q => q.elim⟩
      cases dd with
      | none => exact absurd xd hf
      | some _ => rfl⟩
end
end Mu

namespace Mu
open PySem PySem.Spec PyProof.Rows L2 He Evl
/-! ### list(d) of a dict, locked or not -/
def rListK : List V → Hp → VK → Prop := fun xs H Q => ∃ p kvs, xs = [.ref p] ∧ Rd H p (.dK kvs) ∧ ∀ q, H q = none → Q (.ref q) (upd H q (.lst (kvs.map fun kv => kV kv.1)))
theorem call_listR {X : Cx} (hc : X.calm = true) : CallR X (.type "list") rListK := by
  intro pins s σ H xs us Q I r h
  obtain ⟨p, kvs, rfl, hk, q⟩ := h
  obtain ⟨u, rfl, rx⟩ := vals1 r
  cases (show u = Value.ref p from rx)
  obtain ⟨z, lo, vs, rk, hd⟩ := (show ObjOk X.prog X.w H s.heap p (.dK kvs) from hk.ok I.hok)
  obtain ⟨ep, hat⟩ := hd.dictAt
  have ll : kvs.length = vs.length := Paired.length rk
  have zz : vs.length ≤ sizeLine := by rw [← ll]; exact z
  refine PySem.W.kdl_call (PySem.W.kdl_dict (knd := mixKind X.prog X.w) (kvs := vs) (ep := ep) lo) (I.ok.hd hc) hat zz fun h' tk acc c' kp hS ha => ?_
  have ek : (kvs.map fun kv => kV kv.1) = (kvs.map (·.1)).map kV := by rw [List.map_map]; rfl
  have ok : ObjOk X.prog X.w (upd H s.heap.objs.size (.lst (kvs.map fun kv => kV kv.1))) h' s.heap.objs.size (.lst (kvs.map fun kv => kV kv.1)) := by
    refine ⟨by rw [List.length_map]; exact z, acc.toList, c', vals_of_at ?_ fun j x w h1 h2 => ?_, by rw [Array.toArray_toList]; exact hS⟩
    · have e0 : acc.toList.length = acc.size := by simp
      rw [List.length_map, e0, ha.1, ll]
    · obtain ⟨k, y, hky, hi⟩ := ha.2 j w (by rw [← Array.getElem?_toList]; exact h2)
      rw [ek, List.getElem?_map, KV.keys rk, List.getElem?_map, hky] at h1
      cases h1
      exact keyIs_rel hi
  exact ⟨.ref s.heap.objs.size, _, I.laid kp (Nat.le_refl _) ok, rfl, q _ (I.hok.fresh (Nat.le_refl _))⟩
theorem ra_ltr {G : Hp} : ∀ l : List Nat, RA G (l.map fun c => V.str (ltr c)) (l.map rC)
  | [] => .nil
  | _ :: l => .cons rfl (ra_ltr l)
section
variable {W : WX} {Γ : Ctx} {M : List Re} {ta tb : TE} {K : PySem.W.Frag} {κ : KV} {kvs : List (Key × Rp)} {z : Bool} {l : List Nat}
theorem am_listK (hk : kvs.map (·.1) = l.map fun c => (Sum.inr (ltr c) : Key)) (kk : κ (rL K (l.map rC)) M) : AM rListK [rD z kvs] M κ := fun B G H vs o ra Q q => by
  obtain ⟨x, rfl, hx⟩ := ra1 ra
  obtain ⟨d, ws, rfl, h2, h3⟩ := rD_get hx o.i
  refine ⟨d, ws, rfl, h2, fun p hp => ?_⟩
  have e : (ws.map fun kv => kV kv.1) = l.map fun c => V.str (ltr c) := by
    rw [show (ws.map fun kv => kV kv.1) = (ws.map (·.1)).map kV by rw [List.map_map]; rfl, h3.keys, hk, List.map_map]; rfl
  rw [e]
  have g := Gr.new (o := .lst (l.map fun c => V.str (ltr c))) o.i hp
  refine q _ _ _ (rL K (l.map rC)) M kk (o.gr g) g.g ⟨p, _, rfl, upd_same, ?_⟩
  exact ra_ltr _
end
/-! ### for x, y in zip(a, b) -/
theorem w_forZ {β γ α : Type} {W : WX} {Γ : Ctx} {M : List Re} {K : PySem.W.Frag} {ta tb : TE} {tu : TS} {κ : Kn} {j j' : Nat} (l : List β) (ρ : β → Rp) (l' : List γ) (ρ' : γ → Rp) (hl : l.length = l'.length) (P : Nat → α → Prop) (Γi : Nat → α → Ctx) (Mi : Nat → α → List Re) (h1 : EvX Γ ta (rL K (l.map ρ))) (h2 : EvX Γ tb (rL K (l'.map ρ'))) (a0 : α) (p0 : P 0 a0) (s0 : Sub Γ (Γi 0 a0)) (m0 : M = Mi 0 a0)
    (hs : ∀ i a x y, l[i]? = some x → l'[i]? = some y → P i a → WP W (((Γi i a).set j (some (ρ x))).set j' (some (ρ' y))) (Mi i a) tu (kLoop (LI P Γi Mi (i + 1)) κ)) (hd : ∀ a, P l.length a → κ.nx (Γi l.length a) (Mi l.length a)) : WP W Γ M (tFor (iZip K (tCons ta (tCons tb tNil))) (gTup K 2 (gCons (gName j) (gCons (gName j') gNil))) tu) κ := fun B G H σ D o en d => by
  refine h1 σ G en H o.i _ fun v1 G1 H1 g1 hv1 => h2 σ G1 (en.mono g1.g) H1 g1.i _ fun v2 G2 H2 g2 hv2 => ?_
  obtain ⟨a, xs, rfl, ha, ra⟩ := (rL K (l.map ρ)).mono g2.g hv1
  obtain ⟨b, ys, rfl, hb, rb⟩ := hv2
  have g := g1.trans g2
  have o2 := (o.gr g).low (Ex.refl G2)
  have eb : Ex B.Gl G2 := o.l.trans g.g
  have e1 : xs.length = l.length := by rw [ra.len, List.length_map]
  have e2 : ys.length = l.length := by rw [rb.len, List.length_map, hl]
  refine ⟨a, b, xs, ys, rfl, sq_of (g.i _ _ ha), sq_of (g.i _ _ hb), for_I (n := l.length) (fun i σ' H' => Pv (B.low G2) (LI P Γi Mi i) σ' H') ⟨G2, Γ, M, o2, en.mono g.g, a0, p0, s0, m0⟩ (fun i σ' H' hi ⟨G3, _, _, o3, _⟩ => ?_) (fun σ' H' ⟨G3, _, _, o3, _⟩ => ?_) (fun i σ' H' x H'' hi ⟨G3, Γ3, M3, o3, en3, c, pc, sc, mc⟩ y => ?_) (fun σ' H' ⟨G3, Γ3, M3, o3, en3, c, pc, sc, mc⟩ => ?_)⟩
  · have ex := o3.l.trans o3.i
    exact ⟨xs, ys, xs[i]'(by omega), ys[i]'(by omega), sq_of (ex _ _ ha), sq_of (ex _ _ hb), List.getElem?_eq_getElem (by omega), List.getElem?_eq_getElem (by omega)⟩
  · have ex := o3.l.trans o3.i
    exact ⟨xs, ys, sq_of (ex _ _ ha), sq_of (ex _ _ hb), .inl (by omega)⟩
  · obtain ⟨T, x1, y1, rfl, hT, rfl, hx, hy⟩ := y
    subst mc
    have ex := o3.l.trans o3.i
    have hx := hx xs (sq_of (ex _ _ ha))
    have hy := hy ys (sq_of (ex _ _ hb))
    obtain ⟨r1, q1, p1⟩ := ra.getV hx
    obtain ⟨r2, q2, p2⟩ := rb.getV hy
    obtain ⟨bx, hbx⟩ : ∃ bx, l[i]? = some bx := ⟨_, List.getElem?_eq_getElem hi⟩
    obtain ⟨cy, hcy⟩ : ∃ cy, l'[i]? = some cy := ⟨_, List.getElem?_eq_getElem (by omega)⟩
    rw [List.getElem?_map, hbx] at q1
    rw [List.getElem?_map, hcy] at q2
    cases q1
    cases q2
    have d2 := (d.low eb).loop (I := LI P Γi Mi (i + 1))
    refine ⟨T, _, rfl, st_of upd_same, rfl, _, _, rfl, _, _, rfl, rfl, ?_⟩
    exact hs i c bx cy hbx hcy pc (B.low G2) G3 _ _ _ (o3.ex (Ex.new hT)) (((en3.weak sc).set ((ρ bx).mono o3.l p1) j).set ((ρ' cy).mono o3.l p2) j') d2
  · subst mc
    exact d.nx _ G3 H' _ _ (o3.up eb) (en3.weak sc) (hd c pc)
/-! ### for over a range whose bound is a reading with changes -/
theorem w_forRW {α : Type} {W : WX} {Γ : Ctx} {M : List Re} {ta : TE} {tu : TS} {κ : Kn} {j : Nat} (h : EW W Γ M ta (fun r M1 => ∃ (n : Nat) (P : Nat → α → Prop) (Γi : Nat → α → Ctx) (Mi : Nat → α → List Re) (a0 : α), r = nI n ∧ n ≤ 100000 ∧ P 0 a0 ∧ Sub Γ (Γi 0 a0) ∧ M1 = Mi 0 a0 ∧ (∀ i a, i < n → P i a → WP W ((Γi i a).set j (some (nI i))) (Mi i a) tu (kLoop (LI P Γi Mi (i + 1)) κ)) ∧ (∀ a, P n a → κ.nx (Γi n a) (Mi n a))) (κ.ex Γ)) : WP W Γ M (tFor (iRng1 (tCons ta tNil)) (gName j) tu) κ := fun B G H σ D o en d => by
  refine h B G H σ o en _ (fun v G1 H1 r M1 z o1 e1 hv => ?_) (fun cls fs dd G' H' M' k o' e' xd => d.ex σ G' H' Γ M' cls dd fs o' (en.mono e') xd k)
  obtain ⟨n, P, Γi, Mi, a0, rfl, hn, p0, s0, m0, hs, hd⟩ := z
  obtain rfl : v = V.int (n : Int) := hv
  refine (show tFor (iRng1 (tCons (tC (.int (n : Int))) tNil)) (gName j) tu D σ H1 from Mu.s_forR (G := H1) n (Ex.refl H1) (ea_cons ev_c ea_nil) hn (fun i σ' H' => ∃ G Γ M, Ok B G H' M ∧ En σ' G Γ ∧ LI P Γi Mi i Γ M) (fun H2 e => ⟨G1, Γ, M1, o1.ex e, en.mono e1, a0, p0, s0, m0⟩) (fun i σ' H' hi ⟨G2, Γ2, M2, o2, en2, a, pa, sa, ma⟩ => ?_) (fun σ' H' ⟨G2, Γ2, M2, o2, en2, a, pa, sa, ma⟩ => ?_))
  · subst ma
    exact hs i a hi pa B G2 H' _ _ o2 ((en2.weak sa).set (r := nI i) rfl j) d.loop
  · subst ma
    exact d.nx _ G2 H' _ _ o2 (en2.weak sa) (hd a pa)
/-! ### things forgotten, one by one -/
theorem w_drop {W : WX} {Γ : Ctx} {M : List Re} {t : TS} {κ : Kn} (k : Nat) (h : WP W Γ (M.eraseIdx k) t κ) : WP W Γ M t κ := fun B G H σ D o en d => h B G H σ D o.drop en d
theorem EW.drop {W : WX} {Γ : Ctx} {M : List Re} {te : TE} {κ : KV} {ε : KX} (k : Nat) (h : EW W Γ M te (fun r M' => κ r (M'.eraseIdx k)) ε) : EW W Γ M te κ ε := fun B G H σ o en Q q x => h B G H σ o en Q (fun v G' H' r M' z o' e hv => q v G' H' r (M'.eraseIdx k) z o'.drop e hv) x
section
variable {Γ : Ctx} {ta tb : TE} {K : PySem.W.Frag}
/-- texts in a list, compared with [] -/
theorem x_neS0 {l : List Str} (hl : ∀ s ∈ l, PyData.strOk s = true) (ha : EvX Γ ta (rL K (l.map rS))) (hb : EvX Γ tb (rL K [])) : EvX Γ (tOp (rNeD K) ta tb) (rB (!decide (l = []))) := by
  have key : (l.map PyData.str).length ≤ l.length := by rw [List.length_map]; exact Nat.le_refl _
  have sh : ∀ l : List Str, (∀ s ∈ l, PyData.strOk s = true) → PyData.canLayAll0 (l.map .str) = true ∧ PyData.depthAll (l.map .str) ≤ 1 := fun l => by
    induction l with
    | nil => intro _; exact ⟨rfl, Nat.zero_le _⟩
    | cons a l ih =>
      intro h
      obtain ⟨i1, i2⟩ := ih fun s hs => h s (List.mem_cons_of_mem _ hs)
      refine ⟨?_, ?_⟩
      · rw [List.map_cons, PyData.canLayAll0, i1]
        unfold PyData.canLay0
        rw [h a List.mem_cons_self]; rfl
      · rw [List.map_cons, PyData.depthAll]
        unfold PyData.depth
        exact Nat.max_le.mpr ⟨by omega, i2⟩
  have s1 : Sh 2 (.list (l.map .str)) := ⟨by unfold PyData.canLay0; exact (sh l hl).1, by have := (sh l hl).2; unfold PyData.depth; omega⟩
  have s2 : Sh 2 (.list []) := ⟨by unfold PyData.canLay0; rfl, by unfold PyData.depth PyData.depthAll; omega⟩
  refine x_is (x_neD ha hb (asd_list asd_str l) (asd_list (ρ := rS) asd_str []) (s1.ok (by decide)) (s2.ok (by decide))) ?_
  cases l with
  | nil => simp [PyData.eqv, PyData.eqvAll]
  | cons a l => simp [PyData.eqv, PyData.eqvAll]
end
theorem bit_nat {m o : Nat} : decide ((m >>> o) &&& 1 = 1) = m.testBit o := by
  rw [Nat.testBit, Nat.and_comm]
  have : 1 &&& (m >>> o) = (m >>> o) % 2 := by rw [Nat.and_comm, Nat.and_one_is_mod]
  rw [this]
  rcases Nat.mod_two_eq_zero_or_one (m >>> o) with h | h <;> simp [h]
end Mu

namespace Mu
open PySem PySem.Spec PyProof.Rows L2 He Evl
/-! ### o[i] and o(..) that may raise, within a try -/
section
variable {X : Cx} {CX : CXT} {k : Nat} {f C : Addr} {fd : FuncData} {ps : List Str} {sp : Sp} {E : L2.St → XK} {a b e fe : Expr} {es : List Expr} {ta tb tf : TE} {t : TA} {pos : Pos}
theorem code_fnAt {E : XK} {A : Around} {pins : List (Addr × Obj)} {σ : L2.St} {H : Hp} {s : Shared} {Q : VK} {us : List Value} {vs : List V} (hA : A.frames = X.A.frames) (F : FnOk X.prog X.w X.K X.mg X.base CX k f fd ps sp) (hr : Room k A) (hb : Binds X.K fd ps []) (hx : PassesAt CX X σ E)
    (I : Inv X pins σ H s) (r : Vals vs us) (h : sp vs H Q E) : codeAny (model X.prog X.w) A (.call (.ref f) ⟨us, []⟩) (fun r s' => match r with | .ok (.ret v) => EP X pins σ Q v s' | .ok _ => False | .error e => X.xe e s') s := by
  have hl : (us ++ []).length = ps.length := by rw [List.append_nil, ← r.length]; exact F.len _ _ _ _ h
  have e := I.env0
  have e0 : Env0 X.prog X.w X.K X.mg X.base A X.stack s H := ⟨by rw [hA]; exact e.frames, e.mod, e.bs, e.bsz, e.funs, e.frf, e.hok, e.bare⟩
  have hbb := hb s us I.kIn hl
  rw [List.append_nil] at hbb
  refine codeAny_mono (F.run A X.stack s H ⟨us, []⟩ us vs Q E hr e0 hbb r h) fun r s' hq => ?_
  cases r with
  | error e => exact hx pins H s e s' I hq
  | ok fl =>
    cases fl with
    | ret u => exact I.after hq
    | next => exact False.elim hq
    | brk => exact False.elim hq
    | cont => exact False.elim hq
def tOwnIxS (C : Addr) (sp : Sp) (E : L2.St → XK) (ta tb : TE) : TE := fun σ H Q => tOp (rOwnIx C sp (E σ)) ta tb σ H Q
theorem pe_ixOwnS (d : Dun X.K C "__getitem__" f) (hfi : PySem.W.fnIn X.K f = true) (F : FnOk X.prog X.w X.K X.mg X.base CX k f fd ps sp) (hr : Room (k + 1) X.A) (hb : Binds X.K fd ps []) (hx : ∀ σ, PassesAt CX X σ (E σ)) (ha : PE X a ta) (hbe : PE X b tb)
    (hsl : ∀ o i, subscripted b true o i = runValue (.builtin "lifetime.subscript" ⟨[o, i], []⟩) := by intro _ _; with_unfolding_all rfl) : PE X (.Subscript a b pos) (tOwnIxS C sp E ta tb) := by
  refine ⟨fun pins s σ H Q I h => ?_⟩
  refine Subscript_ (binT ha hbe I h fun v u s2 x y H2 I2 rx ry q => ?_)
  obtain ⟨p, dx, fs, rfl, hp, q⟩ := q
  cases rx
  obtain ⟨mA, J, _⟩ := ins_get I2.hok hp
  obtain ⟨od, J, _⟩ := J.look
  obtain ⟨m0, hF⟩ := I2.fr
  exact PySem.W.sub_K hF I2.ok.mod.kin J d.at_ hfi d.fn (run_fnAt (vs := [.ref p, y]) rfl F hr.in1 hb (hx σ) I2 (.cons rfl (.cons ry .nil)) q) (hsl _ _)
def tCallOwnS (C : Addr) (sp : Sp) (E : L2.St → XK) (tf : TE) (t : TA) : TE := fun σ H Q => tf σ H fun y H1 => ∃ a, y = V.ref a ∧ t σ H1 fun vs H2 => (∃ dx fs, H2 a = some (.ins C dx fs)) ∧ sp (V.ref a :: vs) H2 Q (E σ)
theorem pe_callOwnS (hf : PE X fe tf) (d : Dun X.K C "__call__" f) (hfi : PySem.W.fnIn X.K f = true) (F : FnOk X.prog X.w X.K X.mg X.base CX k f fd ps sp) (hr : Room k X.A) (hb : Binds X.K fd ps []) (hx : ∀ σ, PassesAt CX X σ (E σ)) (ha : PA X (e :: es) t)
    (ht : eval (.Call fe (e :: es) [] pos) X.env = (do callWith pos (← eval fe X.env) [] (backTo pos (starEach (e :: es) X.env)) (backToKw pos (keywordEach [] X.env))) := by rfl)
    (he : starEach (e :: es) X.env = (false, eval e X.env) :: starEach es X.env := by rfl) (hpl : (backTo pos (starEach es X.env)).any (·.1) = false := by rfl) : PE X (.Call fe (e :: es) [] pos) (tCallOwnS C sp E tf t) := by
  refine ⟨fun pins s σ H Q I h => ?_⟩
  refine Call_ (thn (hf.run pins s σ H _ I h) fun u s1 ⟨y, H1, I1, ry, a, ey, q⟩ => ?_) ht
  subst ey
  obtain rfl : u = Value.ref a := ry
  refine StX.callO_with (thn (ha.run pos pins s1 σ H1 _ I1 q) fun us s2 ⟨vs, H2, I2, r, hi, q2⟩ => ?_) he hpl
  obtain ⟨dx, fs, hi⟩ := hi
  obtain ⟨ox, od, J, hd⟩ := StX.insC_at I2 (Or.inr ⟨dx, fs, hi⟩)
  exact ⟨⟨C, ox, od, J, hd⟩, wpAny_call (PySem.W.kco_code I2.kIn J hd d.at_ d.fn hfi (code_fnAt (us := .ref a :: us) (vs := .ref a :: vs) rfl F hr hb (hx σ) I2 (.cons rfl r) q2))⟩
end
section
variable {W : WX} {Γ : Ctx} {M : List Re} {te tb : TE} {ta : TA} {C : Addr} {sp : Sp} {κ : KV} {ε : KX}
def InsC (C : Addr) (r : Rp) : Prop := ∀ v G, r.p v G → ∃ a dx fs, v = .ref a ∧ G a = some (.ins C dx fs)
theorem insC_tab {K : PySem.W.Frag} {m : List Nat} : InsC C (rTab K C m) := fun v G hv => by
  obtain ⟨a, dx, t, c, rfl, h2, _⟩ := hv
  exact ⟨a, dx, _, rfl, h2⟩
theorem e_ixS (h : EW W Γ M te (fun r0 M0 => EW W Γ M0 tb (fun r1 M1 => InsC C r0 ∧ XM sp [r0, r1] M1 κ ε) ε) ε) : EW W Γ M (tOwnIxS C sp (WE W) te tb) κ ε := fun B G H σ o en Q q x =>
  h B G H σ o en _ (fun v0 G0 H0 r0 M0 h0 o0 e0 hv0 => h0 B G0 H0 σ o0 (en.mono e0) _ (fun v1 G1 H1 r1 M1 h1 o1 e1 hv1 => by
    obtain ⟨hi, h2⟩ := h1
    obtain ⟨a, dx, fs, rfl, h3⟩ := hi _ _ (r0.mono e1 hv0)
    exact ⟨a, dx, fs, rfl, o1.i _ _ h3, h2 B G1 H1 [.ref a, v1] W σ o1 (.cons (r0.mono e1 hv0) (.cons hv1 .nil)) Q (q.up (e0.trans e1)) (x.up (e0.trans e1))⟩) (x.up e0)) x
theorem e_coS (h : EW W Γ M te (fun r0 M0 => InsC C r0 ∧ EA W Γ M0 ta (fun rs M1 => XM sp (r0 :: rs) M1 κ ε) ε) ε) : EW W Γ M (tCallOwnS C sp (WE W) te ta) κ ε := fun B G H σ o en Q q x =>
  h B G H σ o en _ (fun v0 G0 H0 r0 M0 h0 o0 e0 hv0 => by
    obtain ⟨hi, h1⟩ := h0
    obtain ⟨a, dx, fs, rfl, h3⟩ := hi _ _ hv0
    exact ⟨a, rfl, h1 B G0 H0 σ o0 (en.mono e0) _ (fun vs G1 H1 rs M1 k1 o1 e1 ra => ⟨⟨dx, fs, o1.i _ _ (e1 _ _ h3)⟩, k1 B G1 H1 (.ref a :: vs) W σ o1 (.cons (r0.mono e1 hv0) ra) Q (q.up (e0.trans e1)) (x.up (e0.trans e1))⟩) (x.up e0)⟩) x
end
/-! ### what is walked: range(n) -/
theorem ix_R {Γ : Ctx} {ta : TE} {n : Nat} (h : EvX Γ ta (nI n)) (hn : n ≤ 100000) : IX Γ (iRng1 (tCons ta tNil)) (List.range n) nI := fun σ G en H e R q => h σ G en H e _ fun v G1 H1 g1 hv => by
  obtain rfl : v = V.int (n : Int) := hv
  refine ⟨(n : Int), rfl, by omega, by omega, q G1 H1 _ g1 ⟨fun i H' hi ex => ?_, fun H' ex => ?_, fun i H' x H'' hi ex y => ?_⟩⟩
  · show i < (n : Int).toNat
    rw [List.length_range] at hi
    omega
  · show (n : Int).toNat ≤ (List.range n).length
    rw [List.length_range]
    omega
  · obtain ⟨y1, y2⟩ := y
    refine ⟨y1, fun b hb => ?_⟩
    rw [List.length_range] at hi
    rw [List.getElem?_range hi] at hb
    cases hb
    rw [y2]
    show V.int (0 + (i : Int)) = V.int (i : Int)
    rw [Int.zero_add]
/-- C(..) that raises, told by spO -/
theorem mk_errO {C : Addr} {R : List V → Hp → Out → Prop} {rs : List Rp} {M : List Re} {κ : KV} {ε : KX} {cls : Value} {fs : List (Str × V)} (hR : ∀ p ws G, RA G ws rs → R (.ref p :: ws) G (.inr (cls, fs))) (kk : ε cls fs M) : MkM C (spO R) rs M κ ε := fun B G H vs W σ o ra Q q x p dx hp hdx ne => by
  have e1 : Ex H (upd (upd H dx (.own p)) p (.ins C dx [])) := fun a u z => by
    rw [upd_ne (ne_of_none z hp), upd_ne (ne_of_none z hdx)]; exact z
  refine ⟨G, .inr (cls, fs), o.i.trans e1, hR p vs G ra, fun _ z => (nomatch z), fun c f z d G2 H2 g xd => ?_⟩
  cases z
  exact x cls fs d G2 H2 M kk ((o.ex e1).gr g) g.g xd
end Mu

namespace Mu
open PySem PySem.Spec PyProof.Rows L2 He Evl
/-! ### comprehensions whose items change things: over whatever is walked; over a list of our own -/
section
variable {W : WX} {Γ : Ctx} {M : List Re} {te : TE} {ti : TI} {K : PySem.W.Frag} {κ : KV} {ε : KX} {i0 j : Nat} {vs : List Nat} {β : Type} {l : List β} {ρ : β → Rp} {p : Addr}
theorem e_lcGI (J : Nat → List Rp → List Re → Prop) (h : IX Γ ti l ρ) (hz : l.length ≤ 40000) (h0 : J 0 [] []) (he : ∀ i a R acc X W, l[i]? = some a → J i acc X → EW W ((wipeC Γ vs).set j (some (ρ a))) (M ++ R :: X) te (fun r M' => ∃ X', M' = M ++ R :: X' ∧ J (i + 1) (acc ++ [r]) X') (fun _ _ _ => False)) (hj : j ∈ vs)
    (kk : ∀ p acc X, acc.length = l.length → J l.length acc X → κ (rV (.ref p)) (M ++ lstR p acc :: X)) : EW W Γ M (tLc ti (gName j) tYes te vs) κ ε := fun B G H σ o en Q q x => h σ G en H o.i _ fun G1 H1 Jt g1 it Dl hD => by
  have o1 := o.gr g1
  have ex : ∀ {i : Nat} {H' : Hp}, DcG B G1 M Dl J i H' → Ex G1 H' := fun z => by
    obtain ⟨G', acc, X, e, _, _, o2⟩ := z
    exact e.trans o2.i
  refine lc_I (n := l.length) (fun i H' => DcG B G1 M Dl J i H') (dg_start o1 hD h0) (fun i H' hi p => it.goes i H' hi (ex p)) (fun H' p => it.stops H' (ex p)) (fun i H' y H'' hi p yy => ?_) (fun H' p => ?_)
  · obtain ⟨rfl, hx⟩ := it.yld i H' y H'' hi (ex p) yy
    obtain ⟨b, hb⟩ : ∃ b, l[i]? = some b := ⟨_, List.getElem?_eq_getElem hi⟩
    refine ⟨wipe_turn σ hj _, ?_⟩
    dsimp only [tYes]
    rw [if_pos rfl]
    exact dg_step (by omega) p (fun G' e => en_at (en.mono (g1.g.trans e)) ((ρ b).mono e (hx b hb))) (fun R acc X W z => he i b R acc X W hb z)
  · obtain ⟨G', acc, X, e, hl, hJ, o2⟩ := p
    exact q (.ref Dl) G' H' _ _ (kk Dl acc X hl hJ) o2 (g1.g.trans e) rfl
theorem ra_valsE {G : Hp} : ∀ {ws vals : List V}, RA G ws (vals.map rV) → ws = vals
  | [], [], _ => rfl
  | w :: ws, v :: vals, .cons h t => by
    have h : w = v := h
    rw [h, ra_valsE t]
theorem e_lcGO (k : Nat) {vals : List V} (hk : M[k]? = some (lstR p (vals.map rV))) (hi : Γ[i0]? = some (some (rV (.ref p)))) (J : Nat → List Rp → List Re → Prop) (hz : vals.length ≤ 40000) (h0 : J 0 [] []) (he : ∀ i v R acc X W, vals[i]? = some v → J i acc X → EW W ((wipeC Γ vs).set j (some (rV v))) (M ++ R :: X) te (fun r M' => ∃ X', M' = M ++ R :: X' ∧ J (i + 1) (acc ++ [r]) X') (fun _ _ _ => False)) (hj : j ∈ vs)
    (kk : ∀ p acc X, acc.length = vals.length → J vals.length acc X → κ (rV (.ref p)) (M ++ lstR p acc :: X)) : EW W Γ M (tLc (iList K (tVar i0)) (gName j) tYes te vs) κ ε := fun B G H σ o en Q q x => by
  obtain ⟨v, h1, h2⟩ := en.get hi
  obtain rfl : v = V.ref p := h2
  have at_ : ∀ {G' H' : Hp} {M' : List Re}, Ok B G' H' (M ++ M') → H' p = some (.lst vals) := fun {G' H' M'} o' => by
    obtain ⟨ws, q1, q2⟩ := o'.m (lstR p (vals.map rV)) (List.mem_append_left _ (List.mem_of_getElem? hk))
    rw [q1, ra_valsE q2]
  have at0 : H p = some (.lst vals) := at_ (M' := []) (by rw [List.append_nil]; exact o)
  refine ⟨.ref p, h1, p, rfl, ⟨vals, sq_of at0⟩, fun Dl hD => ?_⟩
  refine lc_list (xs := vals) (fun i H' => DcG B G M Dl J i H') (dg_start o hD h0) (fun i H' hi p => ?_) (fun i y H' hy p => ?_) (fun H' p => ?_)
  · obtain ⟨G', acc, X, e, hl, hJ, o2⟩ := p
    exact sq_of (at_ o2)
  · have hi : i < vals.length := (List.getElem?_eq_some_iff.mp hy).1
    refine ⟨wipe_turn σ hj _, ?_⟩
    dsimp only [tYes]
    rw [if_pos rfl]
    exact dg_step (by omega) p (fun G' e => en_at (r := rV y) (en.mono e) rfl) (fun R acc X W z => he i y R acc X W hy z)
  · obtain ⟨G', acc, X, e, hl, hJ, o2⟩ := p
    exact q (.ref Dl) G' H' _ _ (kk Dl acc X hl hJ) o2 e rfl
end
end Mu

namespace Mu
open PySem PySem.Spec PyProof.Rows L2 Evl
/-! ### o[i] = v by an own __setitem__ -/
section
variable {X : Cx} {CX : CXT} {k : Nat} {f C : Addr} {fd : FuncData} {ps : List Str} {sp : Sp} {o i : Expr} {to ti : TE} {pos : Pos}
def gSetO (C : Addr) (sp : Sp) (E : L2.St → XK) (to ti : TE) : TG := fun v σ H Q => to σ H fun o H1 => ti σ H1 fun i H2 => ∃ a dx fs, o = .ref a ∧ H2 a = some (.ins C dx fs) ∧ sp [.ref a, i, v] H2 (fun _ H3 => Q σ H3) (E σ)
theorem passAt0 {E : L2.St → XK} (h : ∀ σ, Passes CX X (E σ)) : ∀ σ, PassesAt CX X σ (E σ) := fun σ pins H s e s' I c => h σ pins σ H s e s' I c
theorem pg_setO {E : L2.St → XK} (ho : PE X o to) (hi : PE X i ti) (d : Dun X.K C "__setitem__" f) (hq : PySem.W.noSeq X.K C = true) (F : FnOk X.prog X.w X.K X.mg X.base CX k f fd ps sp) (hr : Room k X.A) (hb : Binds X.K fd ps []) (hx : ∀ σ, PassesAt CX X σ (E σ))
    (ha : ∀ v, assign (.Subscript o i pos) X.env v = (do
      let ov ← holding [v] (eval o X.env)
      let iv ← holding [v, ov] (eval i X.env)
      standAt pos
      holding [v, ov, iv] (setItem ov iv v)
      release [v, ov, iv] []) := by intro _; rfl) : PG X (.Subscript o i pos) (gSetO C sp E to ti) := by
  refine ⟨fun pins s σ H v u Q I r h => ?_⟩
  rw [ha]
  refine wpAny_bind (wpAny_holding (thn (ho.run pins s σ H _ I h) fun ov s1 ⟨x, H1, I1, r1, q1⟩ => ?_))
  refine wpAny_bind (wpAny_holding (thn (hi.run pins s1 σ H1 _ I1 q1) fun iv s2 ⟨y, H2, I2, r2, q2⟩ => ?_))
  obtain ⟨a, dx, fs, rfl, hp, q⟩ := q2
  cases r1
  obtain ⟨mA, J, _⟩ := ins_get I2.hok hp
  obtain ⟨od, J, _⟩ := J.look
  obtain ⟨m0, hF⟩ := I2.fr
  refine wpAny_bind (wpAny_standAt (wpAny_bind (wpAny_holding (PySem.W.ksp_setItem hF I2.ok.mod.kin J hq d.at_ d.fn (thn (run_fnAt (vs := [.ref a, y, v]) rfl F hr hb (hx σ) I2 (.cons rfl (.cons r2 (.cons r .nil))) q) fun _ s3 ⟨_, H3, I3, _, q3⟩ => ?_)))))
  exact wpAny_release ⟨σ, H3, I3, q3⟩
end
section
variable {W : WX} {Γ : Ctx} {M : List Re} {κ : Kn} {C p : Addr} {sp : Sp} {j : Nat} {tv ti : TE}
theorem ws_setOX (hi : Γ[j]? = some (some (rV (.ref p)))) (h : EW W Γ M tv (fun r M1 => EW W Γ M1 ti (fun r1 M2 => (∃ (idx : Nat) (own : Bool) (fs : FL), M2[idx]? = some (insR own p C fs)) ∧ XM sp [rV (.ref p), r1, r] M2 (fun _ M3 => κ.nx Γ M3) (κ.ex Γ)) (κ.ex Γ)) (κ.ex Γ)) : WP W Γ M (tAsg tv (gSetO C sp (WE W) (tVar j) ti)) κ := fun B G H σ D o en d => by
  have dx : ∀ {G1 : Hp}, Ex G G1 → GoX B G1 (κ.ex Γ) W σ := fun e cls fs dd G' H' M' k o' e' xd => d.ex σ G' H' Γ M' cls dd fs o' (en.mono (e.trans e')) xd k
  refine h B G H σ o en _ (fun v G1 H1 r M1 h1 o1 e1 hv => ?_) (dx (Ex.refl _))
  obtain ⟨u, hu1, hu2⟩ := en.get hi
  obtain rfl : u = V.ref p := hu2
  refine ⟨.ref p, hu1, ?_⟩
  refine h1 B G1 H1 σ o1 (en.mono e1) _ (fun y G2 H2 r1 M2 h2 o2 e2 hy => ?_) (dx e1)
  obtain ⟨⟨idx, own, fs, hk⟩, hx⟩ := h2
  obtain ⟨dxx, ws, q2, _⟩ := o2.m _ (List.mem_of_getElem? hk)
  exact ⟨p, dxx, ws, rfl, q2, hx B G2 H2 [.ref p, y, v] W σ o2 (.cons rfl (.cons hy (.cons (r.mono e2 hv) .nil))) _ (fun _ G3 H3 _ M3 h3 o3 e3 _ => d.nx σ G3 H3 Γ M3 o3 (en.mono (e1.trans (e2.trans e3))) h3) (dx (e1.trans e2))⟩
theorem ws_setO {E : L2.St → XK} (hi : Γ[j]? = some (some (rV (.ref p)))) (h : EW W Γ M tv (fun r M1 => EW W Γ M1 ti (fun r1 M2 => (∃ (idx : Nat) (own : Bool) (fs : FL), M2[idx]? = some (insR own p C fs)) ∧ CM sp [rV (.ref p), r1, r] M2 (fun _ M3 => κ.nx Γ M3)) (κ.ex Γ)) (κ.ex Γ)) : WP W Γ M (tAsg tv (gSetO C sp E (tVar j) ti)) κ := fun B G H σ D o en d => by
  have dx : ∀ {G1 : Hp}, Ex G G1 → GoX B G1 (κ.ex Γ) W σ := fun e cls fs dd G' H' M' k o' e' xd => d.ex σ G' H' Γ M' cls dd fs o' (en.mono (e.trans e')) xd k
  refine h B G H σ o en _ (fun v G1 H1 r M1 h1 o1 e1 hv => ?_) (dx (Ex.refl _))
  obtain ⟨u, hu1, hu2⟩ := en.get hi
  obtain rfl : u = V.ref p := hu2
  refine ⟨.ref p, hu1, ?_⟩
  refine h1 B G1 H1 σ o1 (en.mono e1) _ (fun y G2 H2 r1 M2 h2 o2 e2 hy => ?_) (dx e1)
  obtain ⟨⟨idx, own, fs, hk⟩, hx⟩ := h2
  obtain ⟨dxx, ws, q2, _⟩ := o2.m _ (List.mem_of_getElem? hk)
  exact ⟨p, dxx, ws, rfl, q2, hx (E σ) B G2 H2 [.ref p, y, v] o2 (.cons rfl (.cons hy (.cons (r.mono e2 hv) .nil))) _ (fun _ G3 H3 _ M3 h3 o3 e3 _ => d.nx σ G3 H3 Γ M3 o3 (en.mono (e1.trans (e2.trans e3))) h3)⟩
end
/-! ### a call whose last parameter has its default -/
theorem ra_app {G : Hp} : ∀ {vs ws : List V} {rs ss : List Rp}, RA G vs rs → RA G ws ss → RA G (vs ++ ws) (rs ++ ss)
  | _, _, _, _, .nil, h => h
  | _, _, _, _, .cons a b, h => .cons a (ra_app b h)
section
variable {W : WX} {Γ : Ctx} {M : List Re} {κ : KV} {ε : KX} {sp : Sp} {ta : TA}
theorem e_callD {v : V} {E : XK} (h : EA W Γ M ta (fun rs M1 => CM sp (rs ++ [rV v]) M1 κ) ε) : EW W Γ M (tCall sp [v] E ta) κ ε := fun B G H σ o en Q q x =>
  h B G H σ o en _ (fun vs G1 H1 rs M1 k1 o1 e1 ra => k1 E B G1 H1 _ o1 (ra_app ra (.cons rfl .nil)) Q (q.up e1)) x
theorem e_callD0 {E : XK} (h : EA W Γ M ta (fun rs M1 => CM sp (rs ++ [nI 0]) M1 κ) ε) : EW W Γ M (tCall sp [.int 0] E ta) κ ε := e_callD h
end
theorem tab_is {K : PySem.W.Frag} {C : Addr} {m : List Nat} : ∀ v G, (rTab K C m).p v G → ∃ a dx ws, v = .ref a ∧ G a = some (.ins C dx ws) := fun v G h => by
  obtain ⟨a, dx, t, c, rfl, h2, _⟩ := h
  exact ⟨a, dx, _, rfl, h2⟩
theorem x_niTn {K : PySem.W.Frag} {Γ : Ctx} {ta tb : TE} {n : Nat} {l : List Nat} (ha : EvX Γ ta (nI n)) (hb : EvX Γ tb (rTn K l)) : EvX Γ (tOp (rIn K true) ta tb) (rB (!decide (n ∈ l))) :=
  x_is (x_inTi (l := l.map fun k => ((k : Nat) : Int)) true ha (x_is hb (by unfold rTn; rw [List.map_map]; rfl))) (by
    show rB (!decide (((n : Nat) : Int) ∈ l.map fun k => ((k : Nat) : Int))) = _
    congr 2
    rw [decide_eq_decide, List.mem_map]
    exact ⟨fun ⟨a, h, e⟩ => by rw [← Int.ofNat_inj.mp e]; exact h, fun h => ⟨n, h, rfl⟩⟩)
/-! ### and, or of values, the second one of any kind -/
section
variable {W : WX} {Γ : Ctx} {M : List Re} {κ : KV} {ε : KX} {ta tb : TE}
theorem e_orW (h : EW W Γ M ta (fun r M1 => ∃ c, r = rB c ∧ (c = true → κ (rB true) M1) ∧ (c = false → EW W Γ M1 tb κ ε)) ε) : EW W Γ M (tOrV ta tb) κ ε := fun B G H σ o en Q q x =>
  h B G H σ o en _ (fun v G1 H1 r M1 z o1 e1 hv => by
    obtain ⟨c, rfl, h1, h2⟩ := z
    obtain rfl : v = V.bl c := hv
    refine ⟨c, rfl, ?_⟩
    cases c with
    | true => exact q _ G1 H1 _ M1 (h1 rfl) o1 e1 rfl
    | false => exact h2 rfl B G1 H1 σ o1 (en.mono e1) Q (q.up e1) (x.up e1)) x
theorem e_andW (h : EW W Γ M ta (fun r M1 => ∃ c, r = rB c ∧ (c = true → EW W Γ M1 tb κ ε) ∧ (c = false → κ (rB false) M1)) ε) : EW W Γ M (tAndV ta tb) κ ε := fun B G H σ o en Q q x =>
  h B G H σ o en _ (fun v G1 H1 r M1 z o1 e1 hv => by
    obtain ⟨c, rfl, h1, h2⟩ := z
    obtain rfl : v = V.bl c := hv
    refine ⟨c, rfl, ?_⟩
    cases c with
    | true => exact h1 rfl B G1 H1 σ o1 (en.mono e1) Q (q.up e1) (x.up e1)
    | false => exact q _ G1 H1 _ M1 (h2 rfl) o1 e1 rfl) x
end
theorem xn_listK {Γ : Ctx} {te : TE} {kvs : List (Key × Rp)} {z : Bool} {l : List Nat} (h : EvX Γ te (rD z kvs)) (hk : kvs.map (·.1) = l.map fun c => (Sum.inr (ltr c) : Key)) : EvNX Γ (tCB rListK (tCons te tNil)) (l.map rC) := fun σ G en H e Q q => h σ G en H e _ fun v G1 H1 g1 hv => by
  obtain ⟨d, ws, rfl, h2, h3⟩ := rD_get hv g1.i
  refine ⟨d, ws, rfl, h2, fun p hp => ?_⟩
  have e : (ws.map fun kv => kV kv.1) = l.map fun c => V.str (ltr c) := by
    rw [show (ws.map fun kv => kV kv.1) = (ws.map (·.1)).map kV by rw [List.map_map]; rfl, h3.keys, hk, List.map_map]; rfl
  rw [e]
  exact q p _ G1 _ (g1.more (Ex.new hp)) (fresh_back g1.h hp) (fresh_back g1.i hp) upd_same (ra_ltr l)
/-! ### the first place of a sign in a text -/
theorem at_sign {l : List Nat} {c i : Nat} : StrLaws.At (sL l) (ltr c) (sL l).length i ↔ l[i]? = some c := by
  have hy : TL.tl (ltr c) ≠ [] := by show [c] ≠ []; simp
  rw [TL.at_iff hy]
  show (((l.drop i).take 1 == [c]) = true) ↔ _
  rw [beq_iff_eq]
  cases h : l[i]? with
  | none =>
    have hl : l.length ≤ i := List.getElem?_eq_none_iff.mp h
    rw [List.drop_of_length_le hl]
    simp
  | some x =>
    obtain ⟨hi, hx⟩ := List.getElem?_eq_some_iff.mp h
    rw [List.drop_eq_getElem_cons hi, hx]
    simp
theorem find_at {l : List Nat} {c i : Nat} (hi : l[i]? = some c) (hf : ∀ k, k < i → l[k]? ≠ some c) : Txt.find (sL l) (ltr c) = (i : Int) := by
  rcases find_whole (sL l) (ltr c) with ⟨_, h⟩ | ⟨k, h1, h2, h3⟩
  · exact absurd (at_sign.mpr hi) (h i)
  · rw [h1]
    have z := at_sign.mp h2
    rcases Nat.lt_trichotomy k i with q | q | q
    · exact absurd z (hf k q)
    · rw [q]
    · exact absurd (at_sign.mpr hi) (h3 i q)
theorem find_no {l : List Nat} {c : Nat} (h : c ∉ l) : Txt.find (sL l) (ltr c) = -1 := by
  rcases find_whole (sL l) (ltr c) with ⟨h1, _⟩ | ⟨k, h1, h2, h3⟩
  · exact h1
  · exact absurd (List.mem_of_getElem? (at_sign.mp h2)) h
theorem first_at {l : List Nat} {c : Nat} (h : c ∈ l) : ∃ i : Nat, l[i]? = some c ∧ ∀ k, k < i → l[k]? ≠ some c := by
  induction l with
  | nil => cases h
  | cons a l ih =>
    by_cases e : a = c
    · exact ⟨0, by rw [e]; rfl, fun k hk => absurd hk (by omega)⟩
    · obtain ⟨i, h1, h2⟩ := ih ((List.mem_cons.mp h).resolve_left fun z => e z.symm)
      refine ⟨i + 1, by rw [List.getElem?_cons_succ]; exact h1, fun k hk z => ?_⟩
      cases k with
      | zero => exact e (by simpa using z)
      | succ k => rw [List.getElem?_cons_succ] at z; exact h2 k (by omega) z
end Mu

namespace Mu
open PySem PySem.Spec PyProof.Rows L2 Evl
/-! ### len(o) by an own __len__ -/
section
variable {X : Cx} {CX : CXT} {k : Nat} {f C : Addr} {fd : FuncData} {ps : List Str} {sp : Sp} {E : XK}
def rOwnLen (C : Addr) (sp : Sp) (E : XK) : List V → Hp → VK → Prop := fun xs H Q => ∃ a dx fs, xs = [.ref a] ∧ H a = some (.ins C dx fs) ∧ sp [.ref a] H (fun v H' => ∃ n : Nat, v = .int n ∧ n < 2 ^ 62 ∧ Q (.int n) H') E
theorem call_lenOwn (d : Dun X.K C "__len__" f) (F : FnOk X.prog X.w X.K X.mg X.base CX k f fd ps sp) (hr : Room (k + 1) X.A) (hb : Binds X.K fd ps []) (hx : Passes CX X E) : CallR X (.builtin "len") (rOwnLen C sp E) := by
  intro pins s σ H xs us Q I r h
  obtain ⟨a, dx, fs, rfl, ha, q⟩ := h
  obtain ⟨u, rfl, ru⟩ := vals1 r
  cases ru
  obtain ⟨mA, J, _⟩ := ins_get I.hok ha
  obtain ⟨od, J, _⟩ := J.look
  obtain ⟨m0, hF⟩ := I.fr
  refine PySem.W.len_K hF I.ok.mod.kin J d.at_ d.fn (wpAny_mono (run_fnA (A := X.A.in1) (vs := [.ref a]) rfl F hr.in1 hb hx I (.cons rfl .nil) q) (fun w s' h => ?_) (fun _ _ z => z))
  obtain ⟨z, H', I', rz, n, rfl, hn, q'⟩ := h
  obtain ⟨t, rfl⟩ := rz
  refine ⟨⟨by omega, by omega⟩, .int n, H', I'.tok _, ⟨_, rfl⟩, q'⟩
end
section
variable {W : WX} {Γ : Ctx} {M : List Re} {κ : KV} {ε : KX} {sp : Sp} {C : Addr} {r0 : Rp}
theorem am_lenI {E : XK} {n : Nat} (hi : InsC C r0) (hn : n < 2 ^ 62) (h : CM sp [r0] M (fun r M' => r = nI n ∧ κ (nI n) M')) : AM (rOwnLen C sp E) [r0] M κ := fun B G H vs o ra Q q => by
  obtain ⟨x, rfl, hx⟩ := ra1 ra
  obtain ⟨a, dx, fs, rfl, h3⟩ := hi _ _ hx
  refine ⟨a, dx, fs, rfl, o.i _ _ h3, h E B G H _ o ra _ fun v G' H' r M' z o' e hv => ?_⟩
  obtain ⟨rfl, k⟩ := z
  obtain rfl : v = V.int (n : Int) := hv
  exact ⟨n, rfl, hn, q _ G' H' _ M' k o' e rfl⟩
theorem insC_ins {fs : FL} : InsC C (rIns C fs) := fun v G h => by
  obtain ⟨a, dx, ws, rfl, h2, _⟩ := h
  exact ⟨a, dx, ws, rfl, h2⟩
/-- v in o, o an instance -/
theorem om_inI {E : XK} {r1 : Rp} {neg b : Bool} (hi : InsC C r0) (h : CM sp [r0, r1] M (fun r M' => r = rB b ∧ κ (rB (if neg then !b else b)) M')) : OM (rOwnIn C neg sp E) r1 r0 M κ := fun B G H x y o hx hy Q q => by
  obtain ⟨a, dx, fs, rfl, h3⟩ := hi _ _ hy
  refine ⟨a, dx, fs, rfl, o.i _ _ h3, h E B G H [.ref a, x] o (.cons hy (.cons hx .nil)) _ fun v G' H' r M' z o' e hv => ?_⟩
  obtain ⟨rfl, k⟩ := z
  obtain rfl : v = V.bl b := hv
  exact ⟨b, rfl, q _ G' H' _ M' k o' e rfl⟩
end
/-- things lent for a reading that may raise -/
theorem e_bxW {W : WX} {Γ Γ' : Ctx} {M : List Re} {te : TE} {κ : KV} {ε : KX} (cs : Addr → Bool) (hb : BxC cs M Γ Γ') (h : EW W Γ' [] te (fun r M' => M' = [] ∧ LFX cs r ∧ κ r M) (fun c f M' => M' = [] ∧ ε c f M)) : EW W Γ M te κ ε := fun B G H σ o en Q q x =>
  h ⟨borX cs G H M, H, [], borX cs G H M⟩ _ H σ (Ok.nil (borX_i o.i)) (hb B G H σ o en) Q (fun v G2 H2 r M2 z o2 _ hv => by
    obtain ⟨rfl, lf, kk⟩ := z
    obtain ⟨G3, g3, e3, _⟩ := o.borX o2.to
    exact q v G3 H2 r M kk (o.gr g3) g3.g (r.mono e3 (lf v G2 hv))) (fun c f d G2 H2 M2 z o2 _ xd => by
    obtain ⟨rfl, kk⟩ := z
    obtain ⟨G3, g3, e3, _⟩ := o.borX o2.to
    refine x c f d G3 H2 M kk (o.gr g3) g3.g ?_
    cases d with
    | none => exact xd
    | some a => exact e3 _ _ (nlX_of xd rfl))
/-- one sign in a text -/
theorem in_sL {l : List Nat} {c : Nat} : inS (ltr c) (sL l) = decide (c ∈ l) := by
  unfold inS
  rcases StrLaws.occ_head (sL l) (ltr c) 1 (Nat.le_refl 1) with ⟨h0, hn⟩ | ⟨i, r, h0, hi, _⟩
  · rw [h0]
    symm
    refine decide_eq_false fun z => ?_
    obtain ⟨i, hi⟩ := List.getElem?_of_mem z
    exact hn i (at_sign.mpr hi)
  · rw [h0]
    symm
    exact decide_eq_true (List.mem_of_getElem? (at_sign.mp hi))
/-- reading a method of an instance that is our own -/
theorem e_methM {W : WX} {Γ : Ctx} {M : List Re} {κ : KV} {ε : KX} {ta : TA} {f : Str} {C p : Addr} {fs : FL} {own : Bool} {sp : Sp} {E : L2.St → XK} {i : Nat} (idx : Nat) (hi : Γ[i]? = some (some (rV (.ref p)))) (hk : M[idx]? = some (insR own p C fs)) (hl : fs.lookup f = none) (h : EA W Γ M ta (fun rs M1 => XM sp (rV (.ref p) :: rs) M1 κ ε) ε) : EW W Γ M (tMethS C f sp (WE W) (tVar i) ta) κ ε := fun B G H σ o en Q q x => by
  obtain ⟨v, h1, h2⟩ := en.get hi
  obtain rfl : v = V.ref p := h2
  obtain ⟨dx, ws, h3, h4⟩ := o.m _ (List.mem_of_getElem? hk)
  exact ⟨.ref p, h1, p, dx, ws, rfl, h3, h4.noget hl, h B G H σ o en _ (fun vs G1 H1 rs M1 k1 o1 e1 ra => k1 B G1 H1 _ W σ o1 (.cons rfl ra) Q (q.up e1) (x.up e1)) x⟩
end Mu

namespace Mu
open PySem PySem.Spec PyProof.Rows L2 He Evl
/-! ### a dict of one's own that is locked for one statement -/
def frzR (p : Addr) (od : Obj) (ws : List (Key × V)) (kvs : List (Key × Rp)) : Re where
  own := true
  ft := [p]
  p := fun G H => H p = some (.frz od (.dK ws)) ∧ DkR G ws kvs
  mono := fun e ⟨h1, h2⟩ => ⟨h1, h2.mono e⟩
  loc := fun k ⟨h1, h2⟩ => ⟨k p (List.mem_singleton.mpr rfl) _ h1, h2⟩
  at_ := fun ⟨h1, _⟩ a ha => by rw [List.mem_singleton.mp ha]; exact ⟨_, h1⟩
section
variable {B : Ba} {G H : Hp} {M : List Re} {W : WX} {Γ : Ctx} {t tu : TS} {κ : Kn} {κv : KV} {kvs : List (Key × Rp)} {ws : List (Key × V)} {p : Addr} {i j k : Nat} {od : Obj} {r : Rp} {α : Type}
theorem Ok.lock (o : Ok B G H M) (hk : M[k]? = some (dicR p kvs)) (h1 : H p = some (.dK ws)) (h2 : DkR G ws kvs) : Ok B G (upd H p (.frz od (.dK ws))) (M.set k (frzR p od ws kvs)) := by
  have gp : G p = none := o.z p (mem_feet (List.mem_of_getElem? hk) (List.mem_singleton.mpr rfl))
  exact o.chg (R' := frzR p od ws kvs) hk rfl rfl (Ex.refl _) (fun a u z n => by rw [upd_ne fun q => n (List.mem_singleton.mpr q)]; exact z) (Ex.mut o.i gp) (fun _ _ _ y => y) ⟨upd_same, h2⟩
theorem Ok.unlock (o : Ok B G H M) (hk : M[k]? = some (frzR p od ws kvs)) : H p = some (.frz od (.dK ws)) ∧ Ok B G (upd H p (.dK ws)) (M.set k (dicR p kvs)) := by
  have gp : G p = none := o.z p (mem_feet (List.mem_of_getElem? hk) (List.mem_singleton.mpr rfl))
  obtain ⟨h1, h2⟩ := o.m _ (List.mem_of_getElem? hk)
  exact ⟨h1, o.chg (R' := dicR p kvs) hk rfl rfl (Ex.refl _) (fun a u z n => by rw [upd_ne fun q => n (List.mem_singleton.mpr q)]; exact z) (Ex.mut o.i gp) (fun _ _ _ y => y) ⟨ws, upd_same, h2⟩⟩
/-- the dict at p is locked while t runs; nothing is raised out of it -/
theorem w_lock (k : Nat) (hk : M[k]? = some (dicR p kvs)) (h : ∀ od ws, WP W Γ (M.set k (frzR p od ws kvs)) t { nx := fun Γ' M' => M'[k]? = some (frzR p od ws kvs) ∧ κ.nx Γ' (M'.set k (dicR p kvs)), rt := fun r M' => M'[k]? = some (frzR p od ws kvs) ∧ κ.rt r (M'.set k (dicR p kvs)), bk := fun Γ' M' => M'[k]? = some (frzR p od ws kvs) ∧ κ.bk Γ' (M'.set k (dicR p kvs)), ct := fun Γ' M' => M'[k]? = some (frzR p od ws kvs) ∧ κ.ct Γ' (M'.set k (dicR p kvs)) }) : WP W Γ M (tLock t) κ := fun B G H σ D o en d => by
  obtain ⟨ws, h1, h2⟩ := o.m _ (List.mem_of_getElem? hk)
  refine ⟨p, .dK ws, h1, trivial, fun od => ?_⟩
  refine h od ws B G _ σ _ (o.lock hk h1 h2) en ⟨fun σ' G' H' Γ' M' o' en' z => ?_, fun v G' H' r M' o' hv z => ?_, fun σ' G' H' Γ' M' o' en' z => ?_, fun σ' G' H' Γ' M' o' en' z => ?_, fun _ _ _ _ _ _ _ _ _ _ _ z => z.elim⟩
  · obtain ⟨q1, q2⟩ := o'.unlock z.1
    exact ⟨q1, d.nx σ' G' _ Γ' _ q2 en' z.2⟩
  · obtain ⟨q1, q2⟩ := o'.unlock z.1
    exact ⟨q1, d.rt v G' _ r _ q2 hv z.2⟩
  · obtain ⟨q1, q2⟩ := o'.unlock z.1
    exact ⟨q1, d.bk σ' G' _ Γ' _ q2 en' z.2⟩
  · obtain ⟨q1, q2⟩ := o'.unlock z.1
    exact ⟨q1, d.ct σ' G' _ Γ' _ q2 en' z.2⟩
/-- for c in d, d locked -/
theorem w_forK (k : Nat) (l : List Nat) (P : Nat → α → Prop) (Γi : Nat → α → Ctx) (Mi : Nat → α → List Re) (hi : Γ[i]? = some (some (rV (.ref p)))) (hl : kvs.map (·.1) = l.map fun c => (Sum.inr (ltr c) : Key)) (hM : ∀ i a, (Mi i a)[k]? = some (frzR p od ws kvs)) (a0 : α) (p0 : P 0 a0) (s0 : Sub Γ (Γi 0 a0)) (m0 : M = Mi 0 a0)
    (hs : ∀ i a x, l[i]? = some x → P i a → WP W ((Γi i a).set j (some (rC x))) (Mi i a) tu (kLoop (LI P Γi Mi (i + 1)) κ)) (hd : ∀ a, P l.length a → κ.nx (Γi l.length a) (Mi l.length a)) : WP W Γ M (tFor (iKeys (tVar i)) (gName j) tu) κ := fun B G H σ D o en d => by
  obtain ⟨u, hu1, hu2⟩ := en.get hi
  obtain rfl : u = V.ref p := hu2
  subst m0
  obtain ⟨h1, h2⟩ := o.m _ (List.mem_of_getElem? (hM 0 a0))
  have el : ws.length = l.length := by
    have := congrArg List.length hl
    rw [List.length_map, List.length_map] at this
    rw [h2.len, this]
  refine ⟨.ref p, hu1, p, od, rfl, .inl ⟨ws, h1, ?_⟩⟩
  refine for_I (n := l.length) (fun i σ' H' => Pv (B.low G) (LI P Γi Mi i) σ' H') ⟨G, Γ, _, o.low (Ex.refl G), en, a0, p0, s0, rfl⟩ (fun i σ' H' hi ⟨G2, _, _, o2, _, a, pa, sa, ma⟩ => ?_) (fun σ' H' ⟨G2, _, _, o2, _, a, pa, sa, ma⟩ => ?_) (fun i σ' H' x H'' hi ⟨G2, Γ2, M2, o2, en2, a, pa, sa, ma⟩ y => ?_) (fun σ' H' ⟨G2, Γ2, M2, o2, en2, a, pa, sa, ma⟩ => ?_)
  · subst ma
    exact ⟨(o2.m _ (List.mem_of_getElem? (hM i a))).1, by omega⟩
  · subst ma
    exact ⟨(o2.m _ (List.mem_of_getElem? (hM _ a))).1, by omega⟩
  · obtain ⟨rfl, kk, v, y2, rfl⟩ := y
    subst ma
    obtain ⟨b, hb⟩ : ∃ b, l[i]? = some b := ⟨_, List.getElem?_eq_getElem hi⟩
    have hkb : kk = Sum.inr (ltr b) := by
      have e1 : (ws.map (·.1))[i]? = some kk := by rw [List.getElem?_map, y2]; rfl
      rw [h2.keys, hl, List.getElem?_map, hb] at e1
      exact (Option.some.inj e1).symm
    subst hkb
    have d2 := (d.low o.l).loop (I := LI P Γi Mi (i + 1))
    exact hs i a b hb pa (B.low G) G2 _ _ _ o2 ((en2.weak sa).set (v := kV (.inr (ltr b))) rfl j) ⟨fun σ G H Γ M o en z => d2.nx σ G H Γ M o en z, d2.rt, d2.bk, fun σ G H Γ M o en z => d2.ct σ G H Γ M o en z, d2.ex⟩
  · subst ma
    exact d.nx _ G2 H' _ _ (o2.up o.l) (en2.weak sa) (hd a pa)
theorem om_dgetZ {k : Key} (idx : Nat) (hk : M[idx]? = some (frzR p od ws kvs)) (hv : valA kvs k = some r) (kk : κv r M) : OM rDGet (rV (.ref p)) (rV (kV k)) M κv := fun B G H x y o hx hy Q q => by
  obtain rfl : x = V.ref p := hx
  obtain rfl : y = kV k := hy
  obtain ⟨h2, h3⟩ := o.m _ (List.mem_of_getElem? hk)
  have hh := h3.val k
  rw [hv] at hh
  obtain ⟨v, h4, h5⟩ := hh
  exact ⟨p, v, rfl, .inl ⟨ws, k, .inr ⟨_, h2⟩, rfl, h4.symm⟩, q v G H r M kk o (Ex.refl _) h5⟩
end
end Mu

namespace Mu
open PySem PySem.Spec PyProof.Rows L2 He Evl
/-! ### a def that catches what it raises -/
theorem run_C0 {t : TS} {B : Ba} {G H : Hp} {σ : L2.St} {Γ : Ctx} {M : List Re} {κ : KV} {Q : VK} (w : WP (fun _ _ _ _ => False) Γ M t { nx := fun _ M' => κ (rV .non) M', rt := κ }) (o : Ok B G H M) (en : En σ G Γ) (k1 : Go B G κ Q) : t { nx := fun _ H' => Q .non H', rt := Q } σ H := by
  refine w (B.low G) G H σ _ (o.low (Ex.refl _)) en ⟨fun σ' G' H' Γ' M' o' en' z => k1 .non G' H' (rV .non) M' z (o'.up o.l) o'.l rfl, fun v G' H' r M' o' hv z => k1 v G' H' r M' z (o'.up o.l) o'.l hv, fun _ _ _ _ _ _ _ z => z.elim, fun _ _ _ _ _ _ _ z => z.elim, fun σ' G' H' Γ' M' cls d fs o' en' xd z => z.elim⟩
/-! ### the last item; pop of a dict; arguments that are lent -/
section
variable {W : WX} {Γ : Ctx} {M : List Re} {κ : KV} {ε : KX} {K : PySem.W.Frag} {rs : List Rp} {r : Rp} {ta tb td tx : TE} {p : Addr} {kvs : List (Key × Rp)}
theorem atI_lastR {α : Type} {xs : List α} {v : α} (h : xs.getLast? = some v) : atI xs (-1) = some v := by
  obtain ⟨ys, rfl⟩ := List.getLast?_eq_some_iff.mp h
  exact atI_last ys v
theorem ra_last {G : Hp} : ∀ {vs : List V} {rs : List Rp} {r : Rp}, RA G vs rs → rs.getLast? = some r → ∃ v, vs.getLast? = some v ∧ r.p v G
  | _, _, r, .nil, h => by simp at h
  | _, _, r, .cons (a := v) (b := q) a .nil, h => ⟨v, rfl, by
    have : q = r := by simpa using h
    rw [← this]; exact a⟩
  | _, _, r, .cons a (.cons b c), h => by
    obtain ⟨v, h1, h2⟩ := ra_last (.cons b c) (by rw [List.getLast?_cons_cons] at h; exact h)
    exact ⟨v, by rw [List.getLast?_cons_cons]; exact h1, h2⟩
theorem om_ixLast (h : rs.getLast? = some r) (k : κ r M) : OM (rIxL K) (rL K rs) (rI (-1)) M κ := fun B G H x y o hx hy Q q => by
  obtain ⟨a, vs, rfl, h1, h2⟩ := hx
  obtain rfl : y = V.int (-1) := hy
  obtain ⟨v, h3, h4⟩ := ra_last h2 h
  exact ⟨a, vs, -1, v, rfl, rfl, sq_of (o.i _ _ h1), atI_lastR h3, q v G H r M k o (Ex.refl _) h4⟩
theorem om_ixLastO (idx : Nat) (hk : M[idx]? = some (lstR p rs)) (h : rs.getLast? = some r) (k : κ r M) : OM (rIxL K) (rV (.ref p)) (rI (-1)) M κ := fun B G H x y o hx hy Q q => by
  obtain rfl : x = V.ref p := hx
  obtain rfl : y = V.int (-1) := hy
  obtain ⟨ws, h1, h2⟩ := o.m _ (List.mem_of_getElem? hk)
  obtain ⟨v, h3, h4⟩ := ra_last h2 h
  exact ⟨p, ws, -1, v, rfl, rfl, .inl (.inl h1), atI_lastR h3, q v G H r M k o (Ex.refl _) h4⟩
/-- d.pop(k), k there; the answer is dropped -/
theorem e_dpop1 (idx : Nat) (h : EW W Γ M td (fun r1 M1 => ∃ p kvs0, r1 = rV (.ref p) ∧ M1[idx]? = some (dicR p kvs0) ∧ EW W Γ M1 ta (fun r2 M2 => ∃ s kvs v, r2 = rV (.str s) ∧ M2[idx]? = some (dicR p kvs) ∧ valA kvs (.inr s) = some v ∧ κ v (M2.set idx (dicR p (dropA kvs (.inr s))))) ε) ε) : EW W Γ M (tDPop1 td ta) κ ε := fun B G H σ o en Q q x =>
  h B G H σ o en _ (fun v1 G1 H1 r1 M1 z o1 e1 hv1 => by
    obtain ⟨p, kvs0, rfl, hk, z2⟩ := z
    obtain rfl : v1 = V.ref p := hv1
    obtain ⟨ws0, w1, _⟩ := o1.m _ (List.mem_of_getElem? hk)
    refine ⟨p, rfl, .inl ⟨ws0, .inl w1⟩, z2 B G1 H1 σ o1 (en.mono e1) _ (fun v2 G2 H2 r2 M2 z3 o2 e2 hv2 => ?_) (x.up e1)⟩
    obtain ⟨s, kvs, v, rfl, hk2, hv, kk⟩ := z3
    obtain rfl : v2 = V.str s := hv2
    obtain ⟨ws, w2, w3⟩ := o2.m _ (List.mem_of_getElem? hk2)
    have hh := w3.val (.inr s)
    rw [hv] at hh
    obtain ⟨u, h4, h5⟩ := hh
    exact ⟨ws, .inr s, u, w2, rfl, h4, q u G2 _ v _ kk (o2.chgD hk2 w3.drop) (e1.trans e2) h5⟩) x
/-- d.pop(k, x) -/
theorem e_dpop2 (idx : Nat) (h : EW W Γ M td (fun r1 M1 => ∃ p kvs0, r1 = rV (.ref p) ∧ M1[idx]? = some (dicR p kvs0) ∧ EW W Γ M1 ta (fun r2 M2 => EW W Γ M2 tx (fun r3 M3 => ∃ s kvs, r2 = rV (.str s) ∧ M3[idx]? = some (dicR p kvs) ∧ (∀ v, valA kvs (.inr s) = some v → κ v (M3.set idx (dicR p (dropA kvs (.inr s))))) ∧ (valA kvs (.inr s) = none → κ r3 M3)) ε) ε) ε) : EW W Γ M (tDPop2 td ta tx) κ ε := fun B G H σ o en Q q x =>
  h B G H σ o en _ (fun v1 G1 H1 r1 M1 z o1 e1 hv1 => by
    obtain ⟨p, kvs0, rfl, hk, z2⟩ := z
    obtain rfl : v1 = V.ref p := hv1
    obtain ⟨ws0, w1, _⟩ := o1.m _ (List.mem_of_getElem? hk)
    refine ⟨p, rfl, .inl ⟨ws0, .inl w1⟩, z2 B G1 H1 σ o1 (en.mono e1) _ (fun v2 G2 H2 r2 M2 z3 o2 e2 hv2 => ?_) (x.up e1)⟩
    refine z3 B G2 H2 σ o2 (en.mono (e1.trans e2)) _ (fun v3 G3 H3 r3 M3 z4 o3 e3 hv3 => ?_) (x.up (e1.trans e2))
    obtain ⟨s, kvs, rfl, hk2, kk1, kk2⟩ := z4
    obtain rfl : v2 = V.str s := hv2
    obtain ⟨ws, w2, w3⟩ := o3.m _ (List.mem_of_getElem? hk2)
    have hh := w3.val (.inr s)
    refine ⟨ws, .inr s, w2, rfl, fun u hu => ?_, fun hu => ?_⟩
    · cases e : valA kvs (.inr s) with
      | none => rw [e] at hh; rw [hh] at hu; cases hu
      | some v =>
        rw [e] at hh
        obtain ⟨u', h4, h5⟩ := hh
        rw [h4] at hu
        cases hu
        exact q _ G3 _ v _ (kk1 v e) (o3.chgD hk2 w3.drop) (e1.trans (e2.trans e3)) h5
    · cases e : valA kvs (.inr s) with
      | none => exact q _ G3 _ r3 _ (kk2 e) o3 (e1.trans (e2.trans e3)) hv3
      | some v =>
        rw [e] at hh
        obtain ⟨u', h4, h5⟩ := hh
        rw [h4] at hu
        cases hu) x
theorem bx_raX {cs : Addr → Bool} {rs0 rs : List Rp} (h : Paired (BxR cs M) rs0 rs) : ∀ {B : Ba} {G H : Hp} {ws : List V}, Ok B G H M → RA G ws rs0 → RA (borX cs G H M) ws rs := by
  induction h with
  | nil => intro B G H ws o ra; cases ra; exact .nil
  | cons a _ ih => intro B G H ws o ra; cases ra with | cons x y => exact .cons (a _ _ _ o _ x) (ih o y)
/-- a call whose arguments are lent -/
theorem cm_bx (cs : Addr → Bool) {sp : Sp} {rs' : List Rp} (h : Paired (BxR cs M) rs rs') (hs : ∀ vs G, RA G vs rs' → SpD sp vs G r) (lf : LFX cs r) (k : κ r M) : CM sp rs M κ := fun E B G H vs o ra Q q =>
  hs vs _ (bx_raX h o ra) H (borX_i o.i) Q (fun v G2 H2 g hv => by
    obtain ⟨G3, g3, e3, _⟩ := o.borX g
    exact q v G3 H2 r M k (o.gr g3) g3.g (r.mono e3 (lf v G2 hv))) E
end
end Mu

namespace Mu
open PySem PySem.Spec PyProof.Rows L2 He Evl
/-! ### class methods and static methods: facts -/
theorem crB_ok {K : PySem.W.Frag} {C : Addr} (h : crB K C = true) : ClX.CRead K C (.type "type") := by
  obtain ⟨h1, h2⟩ := ba h
  exact ⟨h1, eqO_ok h2⟩
theorem cfB_ok {r : Option PySem.W.CFound} {id : String} {p C : Addr} (h : cfB r id p C = true) : r = some (.get (.builtin id) (.ref p) .none (.ref C)) := by
  unfold cfB at h
  split at h
  · obtain ⟨h1, h2⟩ := ba h
    obtain ⟨h3, h4⟩ := ba h1
    obtain ⟨h5, h6⟩ := ba h2
    rw [beq_iff_eq] at h3 h4 h5 h6
    rw [h3, h4, h5, h6]
  · cases h
def CMetG (K : PySem.W.Frag) (C : Addr) (m : Str) (g : Addr) : Prop := ∃ p, ClX.CMet K C (.type "type") m p g
theorem cmB_ok {K : PySem.W.Frag} {C g : Addr} {m : Str} (h : cmB K C m g = true) : CMetG K C m g := by
  unfold cmB at h
  split at h
  · rename_i p e
    obtain ⟨h1, h2⟩ := ba h
    obtain ⟨h3, h4⟩ := ba h2
    split at h4
    · rename_i g' rest e2
      have z : g' = g := by simpa using h4
      subst z
      exact ⟨p, cfB_ok h1, ⟨rest, e2⟩, h3⟩
    · cases h4
  · cases h
structure SMet (K : PySem.W.Frag) (C : Addr) (m : Str) (p g : Addr) : Prop where
  at_ : PySem.W.findCls K (.ref C) (.type "type") m = some (.get (.builtin "staticmethod.__get__") (.ref p) .none (.ref C))
  rc : ∃ rest, PySem.W.recIn K p "staticmethod" = some (.ref g :: rest)
  hd : PySem.W.handedIn (.ref g) = true
def SMetG (K : PySem.W.Frag) (C : Addr) (m : Str) (g : Addr) : Prop := ∃ p, SMet K C m p g
theorem smB_ok {K : PySem.W.Frag} {C g : Addr} {m : Str} (h : smB K C m g = true) : SMetG K C m g := by
  unfold smB at h
  split at h
  · rename_i p e
    obtain ⟨h1, h2⟩ := ba h
    obtain ⟨h3, h4⟩ := ba h2
    split at h4
    · rename_i g' rest e2
      have z : g' = g := by simpa using h4
      subst z
      exact ⟨p, cfB_ok h1, ⟨rest, e2⟩, h3⟩
    · cases h4
  · cases h
/-- a whole number that is a class's constant -/
def CValI (K : PySem.W.Frag) (C : Addr) (f : Str) (i : Int) : Prop := ∃ u, ClX.CVal K C (.type "type") f (.int i) u
theorem cvB_ok {K : PySem.W.Frag} {C : Addr} {f : Str} {i : Int} (h : cvB K C f i = true) : CValI K C f i := by
  unfold cvB at h
  split at h
  · rename_i j t e
    have z : j = i := by simpa using h
    subst z
    exact ⟨_, ⟨e, ⟨t, rfl⟩⟩⟩
  · cases h
theorem e_cval {W : WX} {Γ : Ctx} {M : List Re} {κ : KV} {ε : KX} {K : PySem.W.Frag} {C : Addr} {f : Str} {i : Int} (r : ClX.CRead K C (.type "type")) (c : CValI K C f i) (k : κ (rI i) M) : EW W Γ M (ClX.tCVal K (tC (.ref C)) f) κ ε := fun B G H σ o en Q q x => by
  obtain ⟨u, c⟩ := c
  exact ⟨C, _, _, u, rfl, r, c, q _ G H _ M k o (Ex.refl _) rfl⟩
/-! ### C.m(..), m a class method or a static method; C(..) with C in a slot -/
/-- C.m(a, ..): dv: what stands ahead of the arguments -/
def tCM (dv : List V) (sp : Sp) (E : L2.St → XK) (t : TA) : TE := fun σ H Q => t σ H fun vs H2 => sp (dv ++ vs) H2 Q (E σ)
section
variable {X : Cx} {CX : CXT} {k : Nat} {C g f : Addr} {fd : FuncData} {ps : List Str} {sp : Sp} {E : L2.St → XK} {x m : Str} {e : Expr} {es : List Expr} {p pos apos : Pos} {t : TA} {pl : Sem Bool} {i : Nat}
theorem pe_cm (hg : Gl X x) (hm : X.mg x = some (.ref C)) (r : ClX.CRead X.K C (.type "type")) (c : CMetG X.K C m g) (F : FnOk X.prog X.w X.K X.mg X.base CX k g fd ps sp) (hb : Binds X.K fd ps []) (hr : Room k X.A) (hx : ∀ σ, PassesAt CX X σ (E σ)) (ha : PA X (e :: es) t)
    (hdb : (x == ("__debug__" : Str)) = false := by decide)
    (hst : starEach (e :: es) X.env = (false, eval e X.env) :: starEach es X.env := by rfl) (hpl : (backTo pos (starEach es X.env)).any (·.1) = false := by rfl)
    (ht : eval (.Call (.Attribute (.Name x p) m apos) (e :: es) [] pos) X.env = (do
      let ov ← eval (.Name x p) X.env
      standAt apos.atName
      let (f, first) ← holding [ov] (getMethod ov m pl)
      callWith pos f first (backTo pos (starEach (e :: es) X.env)) (backToKw pos (keywordEach [] X.env))) := by rfl) :
    PE X (.Call (.Attribute (.Name x p) m apos) (e :: es) [] pos) (tCM [.ref C] sp E t) := by
  refine ⟨fun pins s σ H Q I h => ?_⟩
  obtain ⟨q0, c⟩ := c
  refine PySem.W.methodCall_KW (pl := pl) (ld_glob I hg hm ?_ hdb) ht
  refine ClX.getmethcm_ok I r c fun s2 I2 => ?_
  refine ClX.callwith_cm I2 (ClX.base_none I (Nat.le_refl _)) c.fi (thn (ha.run pos _ s2 σ H _ I2 h) fun us s3 ⟨vs, H2, I3, rv, q2⟩ => ⟨⟨ClX.pin_at I3, I3.kIn⟩, ?_⟩) hst hpl
  have z := PySem.W.method_call (kw := []) (ClX.pin_at I3) (R := fun r s' => match r with | .ok (.ret v) => EP X ((s.heap.objs.size, PySem.W.methodObj (.ref g) (.ref C)) :: pins) σ Q v s' | .ok _ => False | .error e => X.xe e s') (pos := us) (A := X.A) (prog := X.prog) (w := X.w) ?_
  · refine wpAny_call (codeAny_mono z fun r s' hq => ?_)
    cases r with
    | error e => exact hq
    | ok fl =>
      cases fl with
      | ret u => exact ClX.unpinE hq
      | next => exact False.elim hq
      | brk => exact False.elim hq
      | cont => exact False.elim hq
  · have hl : ((Value.ref C :: us) ++ []).length = ps.length := by
      rw [List.append_nil]
      have := F.len _ _ _ _ q2
      have h2 := rv.length
      simp only [List.cons_append, List.nil_append, List.length_cons] at this ⊢
      omega
    have hbb := hb s3 (.ref C :: us) I3.kIn hl
    rw [List.append_nil] at hbb
    refine codeAny_mono (F.run X.A X.stack s3 H2 ⟨.ref C :: us, []⟩ (.ref C :: us) (.ref C :: vs) Q (E σ) hr I3.env0 hbb (.cons rfl rv) q2) fun r s' hq => ?_
    cases r with
    | error e => exact hx σ _ _ _ _ _ I3 hq
    | ok fl =>
      cases fl with
      | ret u => exact I3.after hq
      | next => exact False.elim hq
      | brk => exact False.elim hq
      | cont => exact False.elim hq
theorem pe_sm (hg : Gl X x) (hm : X.mg x = some (.ref C)) (r : ClX.CRead X.K C (.type "type")) (c : SMetG X.K C m g) (hk : PySem.W.keepIn X.K (.ref g) = true) (F : FnOk X.prog X.w X.K X.mg X.base CX k g fd ps sp) (hb : Binds X.K fd ps []) (hr : Room k X.A) (hx : ∀ σ, PassesAt CX X σ (E σ)) (ha : PA X (e :: es) t)
    (hdb : (x == ("__debug__" : Str)) = false := by decide)
    (hst : starEach (e :: es) X.env = (false, eval e X.env) :: starEach es X.env := by rfl) (hpl : (backTo pos (starEach es X.env)).any (·.1) = false := by rfl)
    (ht : eval (.Call (.Attribute (.Name x p) m apos) (e :: es) [] pos) X.env = (do
      let ov ← eval (.Name x p) X.env
      standAt apos.atName
      let (f, first) ← holding [ov] (getMethod ov m pl)
      callWith pos f first (backTo pos (starEach (e :: es) X.env)) (backToKw pos (keywordEach [] X.env))) := by rfl) :
    PE X (.Call (.Attribute (.Name x p) m apos) (e :: es) [] pos) (tCM [] sp E t) := by
  refine ⟨fun pins s σ H Q I h => ?_⟩
  obtain ⟨q0, c⟩ := c
  obtain ⟨rest, hp⟩ := c.rc
  refine PySem.W.methodCall_KW (pl := pl) (ld_glob I hg hm ?_ hdb) ht
  refine PySem.W.method_cls I.kIn r.ga ?_
  refine PySem.W.cls_bind I.kIn r.rd c.at_ (wpAny_call (PySem.W.sm_get (s := { s with toks := s.toks + 1 }) I.kIn hp (PySem.W.handed_on c.hd ?_)))
  have I1 := I.tok (s.toks + 1)
  refine PySem.W.callWith_K (h₀ := X.base) I1.ok.mod.kin hk (thn (ha.run pos pins _ σ H _ I1 h) fun us s2 ⟨vs, H2, I2, r, q⟩ => ⟨I2.kIn, ?_⟩) hst hpl
  exact run_fnAt (vs := vs) rfl F hr hb (hx σ) I2 r q
/-- C(..), C in the slot i -/
def tMakeV (i : Nat) (C : Addr) (t : TE) : TE := fun σ H Q => σ[i]? = some (some (.ref C)) ∧ t σ H Q
theorem pe_makeV {E : XK} (M : Mk X.K C f) (F : FnOk X.prog X.w X.K X.mg X.base CX k f fd ps sp) (hr : Room (k + 1) X.A) (hN : X.N[i]? = some x) (hv : Vis X.env.scope x) (hb : Binds X.K fd ps []) (hx : Passes CX X E) (ha : PA X (e :: es) t)
    (hdb : (x == ("__debug__" : Str)) = false := by decide) (hcd : (x == ("__classdict__" : Str)) = false := by decide)
    (he : starEach (e :: es) X.env = (false, eval e X.env) :: starEach es X.env := by rfl) (hpl : (backTo pos (starEach es X.env)).any (·.1) = false := by rfl) : PE X (.Call (.Name x p) (e :: es) [] pos) (tMakeV i C (tMake C sp [] E t)) := by
  refine ⟨fun pins s σ H Q I h => ?_⟩
  obtain ⟨hs, ht⟩ := h
  refine wpAny_Call_Name_kw (thn ((pe_var (pos := p) hN hv hdb hcd).run pins s σ H (fun v H1 => v = .ref C ∧ H1 = H) I ⟨.ref C, hs, rfl, rfl⟩) fun u s1 ⟨v, H1, I1, r1, q1⟩ => ?_)
  obtain ⟨rfl, rfl⟩ := q1
  cases r1
  refine PySem.W.callWith_K (h₀ := X.base) I.ok.mod.kin M.kp (thn (ha.run pos pins s1 σ _ _ I1 ht) fun us s2 ⟨vs, H2, I2, r, q⟩ => ⟨I2.kIn, ?_⟩) he hpl
  exact run_make M F hr hb .nil hx I2 r q
theorem pe_makeVS (M : Mk X.K C f) (F : FnOk X.prog X.w X.K X.mg X.base CX k f fd ps sp) (hr : Room (k + 1) X.A) (hN : X.N[i]? = some x) (hv : Vis X.env.scope x) (hb : Binds X.K fd ps []) (hx : ∀ σ, PassesAt CX X σ (E σ)) (ha : PA X (e :: es) t)
    (hdb : (x == ("__debug__" : Str)) = false := by decide) (hcd : (x == ("__classdict__" : Str)) = false := by decide)
    (he : starEach (e :: es) X.env = (false, eval e X.env) :: starEach es X.env := by rfl) (hpl : (backTo pos (starEach es X.env)).any (·.1) = false := by rfl) : PE X (.Call (.Name x p) (e :: es) [] pos) (tMakeV i C (tMakeS C sp E t)) := by
  refine ⟨fun pins s σ H Q I h => ?_⟩
  obtain ⟨hs, ht⟩ := h
  refine wpAny_Call_Name_kw (thn ((pe_var (pos := p) hN hv hdb hcd).run pins s σ H (fun v H1 => v = .ref C ∧ H1 = H) I ⟨.ref C, hs, rfl, rfl⟩) fun u s1 ⟨v, H1, I1, r1, q1⟩ => ?_)
  obtain ⟨rfl, rfl⟩ := q1
  cases r1
  refine PySem.W.callWith_K (h₀ := X.base) I.ok.mod.kin M.kp (thn (ha.run pos pins s1 σ _ _ I1 ht) fun us s2 ⟨vs, H2, I2, r, q⟩ => ⟨I2.kIn, ?_⟩) he hpl
  exact run_makeS M F hr hb (hx σ) I2 r q
end
section
variable {W : WX} {Γ : Ctx} {M : List Re} {κ : KV} {ε : KX} {i : Nat} {C : Addr} {t : TE}
theorem e_makeV (hi : Γ[i]? = some (some (rV (.ref C)))) (h : EW W Γ M t κ ε) : EW W Γ M (tMakeV i C t) κ ε := fun B G H σ o en Q q x => by
  obtain ⟨u, hu1, hu2⟩ := en.get hi
  obtain rfl : u = V.ref C := hu2
  exact ⟨hu1, h B G H σ o en Q q x⟩
theorem x_makeV {r : Rp} (hi : Γ[i]? = some (some (rV (.ref C)))) (h : EvX Γ t r) : EvX Γ (tMakeV i C t) r := fun σ G en => by
  obtain ⟨u, hu1, hu2⟩ := en.get hi
  obtain rfl : u = V.ref C := hu2
  exact fun H e Q q => ⟨hu1, h σ G en H e Q q⟩
end
section
variable {W : WX} {Γ : Ctx} {M : List Re} {κ : KV} {ε : KX} {C : Addr} {sp : Sp} {ta : TA}
theorem e_cm {E : L2.St → XK} (h : EA W Γ M ta (fun rs M1 => CM sp (rV (.ref C) :: rs) M1 κ) ε) : EW W Γ M (tCM [.ref C] sp E ta) κ ε := fun B G H σ o en Q q x =>
  h B G H σ o en _ (fun vs G1 H1 rs M1 h1 o1 e1 ra => h1 (E σ) B G1 H1 (.ref C :: vs) o1 (.cons rfl ra) Q (q.up e1)) x
theorem e_cmS (h : EA W Γ M ta (fun rs M1 => XM sp (rV (.ref C) :: rs) M1 κ ε) ε) : EW W Γ M (tCM [.ref C] sp (WE W) ta) κ ε := fun B G H σ o en Q q x =>
  h B G H σ o en _ (fun vs G1 H1 rs M1 h1 o1 e1 ra => h1 B G1 H1 (.ref C :: vs) W σ o1 (.cons rfl ra) Q (q.up e1) (x.up e1)) x
theorem e_sm {E : L2.St → XK} (h : EA W Γ M ta (fun rs M1 => CM sp rs M1 κ) ε) : EW W Γ M (tCM [] sp E ta) κ ε := fun B G H σ o en Q q x =>
  h B G H σ o en _ (fun vs G1 H1 rs M1 h1 o1 e1 ra => h1 (E σ) B G1 H1 vs o1 ra Q (q.up e1)) x
theorem e_smS (h : EA W Γ M ta (fun rs M1 => XM sp rs M1 κ ε) ε) : EW W Γ M (tCM [] sp (WE W) ta) κ ε := fun B G H σ o en Q q x =>
  h B G H σ o en _ (fun vs G1 H1 rs M1 h1 o1 e1 ra => h1 B G1 H1 vs W σ o1 ra Q (q.up e1) (x.up e1)) x
end
/-! ### iter(t) of a tuple as a value; an own __iter__ that gives it -/
def ItTO (t it : Addr) : HO := .ext fun h => h.get? it = some { cls := .type "tuple_iterator", data := .fields #[.ref t, .int 0 0] }
theorem itTO_ok {P : Program} {w : World} {H : Hp} {h : Heap} {t it : Addr} (e : h.get? it = some { cls := .type "tuple_iterator", data := .fields #[.ref t, .int 0 0] }) : ObjOk P w H h it (ItTO t it) := ⟨e, ⟨_, e⟩, fun h1 h2 q k => k _ q⟩
theorem call_iter_tup {prog : Program} {w : World} {A : Around} {E : Value → Shared → Prop} {s : Shared} {t : Addr} {items : Array Value} {Q : Value → Shared → Prop} (ht : s.heap.IsTuple t items) (h : Q (.ref s.heap.objs.size) { s with heap := s.heap.push { cls := .type "tuple_iterator", data := .fields #[.ref t, .int 0 0] } }) :
    wpAny (model prog w) A (call (.builtin "iter") [.ref t]) Q E s := by
  refine Calls.call_function_entry (by decide +kernel) (by decide +kernel) PySem.W.kdk_entry_iter (PySem.W.kdk_args_iter _) ?_
  unfold Builtin.«iter»
  refine wpAny_bind (m := someArgs "iter" 1 2 _) (wpAny_of_eq (a := [Value.ref t]) (by first | rfl | kernel_rfl!) ?_)
  show wpAny _ _ (pyIter (.ref t) >>= _) _ _ _
  refine wpAny_bind (wpAny_pyIter_tuple ht ?_)
  exact wpAny_pure ⟨_, rfl, h⟩
def rIterT (K : PySem.W.Frag) (n : Nat) : List V → Hp → VK → Prop := fun xs H Q => ∃ (t : Addr) (zs : List V), xs = [.ref t] ∧ SqT K H t zs ∧ ∀ it, H it = none → n ≤ it → Q (.ref it) (upd H it (ItTO t it))
theorem call_iterT {X : Cx} : CallR X (.builtin "iter") (rIterT X.K X.s_0.heap.objs.size) := by
  intro pins s σ H xs us Q I r h
  obtain ⟨t, zs, rfl, hq, q⟩ := h
  obtain ⟨u, rfl, ru⟩ := vals1 r
  cases ru
  obtain ⟨its, rv, pl, hz⟩ := I.tuple hq
  refine call_iter_tup (show s.heap.IsTuple t its.toArray from pl) ?_
  exact ⟨.ref s.heap.objs.size, _, I.laid (t' := s.toks) (fun b u e => Heap.get?_push_of_some _ e) (Nat.le_refl _) (itTO_ok (Heap.get?_push_size _ rfl)), rfl, q _ (I.hok.fresh (Nat.le_refl _)) I.sz⟩
/-- a promise that may speak of the size of the state -/
structure FnY (P : Program) (w : World) (K : PySem.W.Frag) (mg : Str → Option Value) (base : Heap) (CX : CXT) (k : Nat) (f : Addr) (fd : FuncData) (ps : List Str) (sp : Nat → Sp) : Prop where
  len : ∀ n vs H Q E, sp n vs H Q E → vs.length = ps.length
  run : ∀ (A : Around) (outer : List Env) (s : Shared) (H : Hp) (args : Args) (us : List Value) (vs : List V) (Q : VK) (E : XK), Room k A → Env0 P w K mg base A outer s H → BindsTo s fd args (ps.zip us) → Vals vs us → sp s.heap.objs.size vs H Q E →
    codeAny (model P w) A (.call (.ref f) args) (CR CX outer P w H s Q E) s
section
variable {CX : CXT} {P : Program} {w : World} {K : PySem.W.Frag} {mg : Str → Option Value} {base : Heap} {k : Nat} {f : Addr}
theorem fnY_of {name qual : Str} {params : Arguments} {body : List Stmt} {scope : Scope} {dV kV doc pm cdv ct oc : Value} {an od : Option Addr}
    {osl : Array (Option Value)} {N ps : List Str} {sp : Nat → Sp} (lk : K.lookup f = some ⟨oc, od, .func (PySem.W.fnOf name qual params body scope dV kV doc pm an cdv ct), osl⟩) (hcd : PySem.W.codeIn K cdv qual = true) (S : FnScope N ps scope)
    (len : ∀ n vs H Q E, sp n vs H Q E → vs.length = ps.length)
    (hbody : ∀ (A : Around) (outer : List Env) (s : Shared) (H : Hp) (vs : List V) (Q : VK) (E : XK), Room k (A.deeper (envOfC qual scope s.heap.objs.size f cdv)) → sp s.heap.objs.size vs H Q E →
      ∃ t, PSs (cxOf CX P w K mg base N qual scope f cdv A outer s H E) body t ∧ t { nx := fun _ H' => Q .non H', rt := Q } (start N vs) H) :
    FnY P w K mg base CX (k + 1) f (PySem.W.fnOf name qual params body scope dV kV doc pm an cdv ct) ps sp := by
  refine ⟨len, fun A outer s H args us vs Q E hr e0 hb r hsp => ?_⟩
  have F : FnOk P w K mg base CX (k + 1) f (PySem.W.fnOf name qual params body scope dV kV doc pm an cdv ct) ps (fun vs H' Q E => sp s.heap.objs.size vs H' Q E) ∨ True := .inr trivial
  have hl := len _ _ _ _ _ hsp
  have KX : K.In s.heap := e0.mod.kin.keeps fun b o e => (e0.bs b o e).1
  have lim : s.heap.NoLimit := e0.mod.nolimit.keeps fun b o e => (e0.bs b o e).1
  have hkind : ∀ y ∈ ps.zip us, scope.names.lookup y.1 = some .local ∨ (scope.names.lookup y.1 = some .cell ∧ ((cellsFrom (s.heap.objs.size + 1) scope.names []).lookup y.1).isSome = true) := fun ⟨n, v⟩ hy => by
    rcases S.par n (List.of_mem_zip hy).1 with q | q
    · exact .inl q
    · exact .inr ⟨q, PySem.W.cellsFrom_some _ _ _ (.inl q)⟩
  refine codeAny_call_function hr.depth (KX _ _ lk) rfl S.co S.gen rfl (PySem.W.codeRec_of KX hcd) (hb _ _ _ _ ?_)
  refine wpAny_newFunctionEnv_cells S.kind hkind fun env he s1 x => ?_
  subst he
  refine ⟨lim.keeps x.toInCall.keep, codeAny_func ?_⟩
  obtain ⟨t, ht, hq⟩ := hbody A outer s H vs Q E (hr.deeper _) hsp
  have I : Inv (cxOf CX P w K mg base N qual scope f cdv A outer s H E) [] (start N vs) H s1 := inv_start S hr.hd e0 hl r x
  refine wpAny_mono (ht.run [] s1 (start N vs) H _ I hq) (fun fl s' hs => ?_) fun e s' hs => hs
  have fin : ∀ {σ' : L2.St} {H' : Hp} {v : V} {u : Value}, Inv (cxOf CX P w K mg base N qual scope f cdv A outer s H E) [] σ' H' s' → RelV v u → Q v H' → CE outer P w H s Q u s' :=
    fun {σ' H' v u} J rv q => ⟨v, H', J.os, J.bare, J.base, J.hok, rv, q⟩
  cases fl with
  | ret u =>
    obtain ⟨v, σ', H', J, rv, q⟩ := hs
    exact fin J rv q
  | next =>
    obtain ⟨σ', H', J, q⟩ := hs
    exact fin (v := V.non) (u := Value.none) J rfl q
  | brk =>
    obtain ⟨σ', H', J, q⟩ := hs
    exact False.elim q
  | cont =>
    obtain ⟨σ', H', J, q⟩ := hs
    exact False.elim q
theorem okY {qual x : Str} {params : Arguments} {body : List Stmt} {scope : Scope} {dvs : List V} {kws : List (Str × V)} {fd : FuncData} {N ps : List Str} {sp : Nat → Sp} (F : FunD K x qual params body scope dvs kws f fd) (S : FnScope N ps scope) (len : ∀ n vs H Q E, sp n vs H Q E → vs.length = ps.length)
    (hbody : ∀ (cdv : Value) (A : Around) (outer : List Env) (s : Shared) (H : Hp) (vs : List V) (Q : VK) (E : XK), Room k (A.deeper (envOfC qual scope s.heap.objs.size f cdv)) → sp s.heap.objs.size vs H Q E →
      ∃ t, PSs (cxOf CX P w K mg base N qual scope f cdv A outer s H E) body t ∧ t { nx := fun _ H' => Q .non H', rt := Q } (start N vs) H) : FnY P w K mg base CX (k + 1) f fd ps sp := by
  obtain ⟨oc, od, dV, kV, doc, pm, an, cdv, ct, osl, rfl, lk, hcd, _, _⟩ := F.ex
  exact fnY_of lk hcd S len fun A outer s H vs Q E hr hsp => hbody cdv A outer s H vs Q E hr hsp
end
/-- what such an __iter__ promises -/
def spIter (K : PySem.W.Frag) (C : Addr) : Nat → Sp := fun n vs H Q _ => ∃ a dx fs c xs, vs = [.ref a] ∧ H a = some (.ins C dx fs) ∧ fs.lookup ("cells" : Str) = some (.ref c) ∧ SqT K H c xs ∧ ∀ it, H it = none → n ≤ it → Q (.ref it) (upd H it (ItTO c it))
def iOwn (K : PySem.W.Frag) (C : Addr) (te : TE) : TI := fun σ H R => te σ H fun x H1 => ∃ a dx fs c xs, x = .ref a ∧ H1 a = some (.ins C dx fs) ∧ fs.lookup ("cells" : Str) = some (.ref c) ∧ SqT K H1 c xs ∧ R (Itt K c) H1
theorem pi_own {X : Cx} {tg e : Expr} {te : TE} {k : Nat} {f C : Addr} {fd : FuncData} {ps : List Str} (he : PE X e te) (d : Dun X.K C "__iter__" f) (F : FnY X.prog X.w X.K X.mg X.base CX0 k f fd ps (spIter X.K C)) (hr : Room k X.A) (hb : Binds X.K fd ps []) : PI X tg e (iOwn X.K C te) := by
  refine ⟨fun pins s σ H R I h => ?_⟩
  refine thn (he.run pins s σ H _ I h) fun v s1 ⟨x, H1, I1, r1, a, dx, fs, c, xs, ex, ha, hc, hS, q⟩ => ?_
  subst ex
  obtain rfl : v = Value.ref a := r1
  obtain ⟨mA, J, _⟩ := ins_get I1.hok ha
  obtain ⟨od, J, _⟩ := J.look
  obtain ⟨m0, hF⟩ := I1.fr
  refine PySem.W.owit_iter hF I1.ok.mod.kin J d.at_ (by rw [← d.fn]) ?_
  have hsp : spIter X.K C s1.heap.objs.size [.ref a] H1 (fun v H' => ∃ it, v = .ref it ∧ H1 it = none ∧ s1.heap.objs.size ≤ it ∧ H' = upd H1 it (ItTO c it)) (fun _ _ _ => False) :=
    ⟨a, dx, fs, c, xs, rfl, ha, hc, hS, fun it h1 h2 => ⟨it, rfl, h1, h2, rfl⟩⟩
  have hl := F.len _ _ _ _ _ hsp
  have hbb := hb s1 [.ref a] I1.kIn (by simpa using hl)
  rw [List.append_nil] at hbb
  refine wpAny_call (codeAny_mono (F.run X.A X.stack s1 H1 ⟨[.ref a], []⟩ [.ref a] [.ref a] _ _ hr I1.env0 hbb (.cons rfl .nil) hsp) fun r s' hq => ?_)
  cases r with
  | error e => exact False.elim hq
  | ok fl =>
    cases fl with
    | next => exact False.elim hq
    | brk => exact False.elim hq
    | cont => exact False.elim hq
    | ret u =>
      obtain ⟨v, H', I2, rv, it, ev, hn, hle, eH⟩ := I1.after hq
      subst ev
      subst eH
      cases rv
      have hob : s'.heap.get? it = some { cls := .type "tuple_iterator", data := .fields #[.ref c, .int 0 0] } := (I2.hok it _ upd_same).1
      show PySem.W.OwitIt _ _ _ _ _ _
      unfold PySem.W.OwitIt
      refine wpAny_specialOf (name := Str.ofString "__next__") (T := "tuple_iterator") ⟨_, hob, rfl⟩ PySem.F.slot_tuple_iterator_next.lookup ?_
      have I3 := ItX.inv_drop I2 upd_same
      have fp := ItX.inv_fp I2 (u := ItTO c it) upd_same (Nat.le_trans I1.sz hle)
      rw [ItX.dropH_upd hn] at I3 fp
      exact ⟨it, [it], _, _, H1, rfl, I3, turn_tuple c it, ⟨_, hob, rfl, rfl⟩, fun b hb => by rw [List.mem_singleton.mp hb]; exact fp, q⟩
section
variable {W : WX} {Γ : Ctx} {M : List Re} {te : TE} {t : TT} {K : PySem.W.Frag} {C : Addr} {m : List Nat} {ti : TI} {α β : Type} {l : List β} {j1 j2 : Nat} {tu : TS} {κ : Kn}
theorem ix_tp {ρ : β → Rp} {G1 : Hp} {c : Addr} (h : (rT K (l.map ρ)).p (.ref c) G1) : Itm G1 (Itt K c) l ρ ∧ ∀ H, Ex G1 H → ∃ xs, SqT K H c xs := by
  obtain ⟨a, ws, e, h1, h2⟩ := h
  cases e
  have el : ws.length = l.length := by rw [h2.len, List.length_map]
  refine ⟨⟨fun i H' hi ex => ?_, fun H' ex => ⟨ws, ex_t ex h1, by omega⟩, fun i H' x H'' hi ex y => ?_⟩, fun H e => ⟨ws, ex_t e h1⟩⟩
  · exact ⟨ws, ws[i]'(by omega), ex_t ex h1, List.getElem?_eq_getElem (by omega)⟩
  · obtain ⟨y1, y2⟩ := y
    refine ⟨y1, fun b hb => ?_⟩
    obtain ⟨r, hr, hx⟩ := h2.getV (y2 ws (ex_t ex h1))
    rw [List.getElem?_map, hb] at hr
    cases hr
    exact hx
/-- a table is walked: its pairs -/
theorem ix_own (h : EvX Γ te (rTab K C m)) : IX Γ (iOwn K C te) (pairsN m) (rP K) := fun σ G en H e R q => h σ G en H e _ fun v G1 H1 g1 hv => by
  obtain ⟨a, dx, t, c, rfl, h2, h3, h4⟩ := hv
  obtain ⟨i1, i2⟩ := ix_tp (l := pairsN m) (ρ := rP K) h4
  obtain ⟨xs, hS⟩ := i2 H1 g1.i
  exact ⟨a, dx, _, c, xs, rfl, g1.i _ _ h2, tabF_cells, hS, q G1 H1 _ g1 i1⟩
/-- [.. for x, y in .. if ..] -/
theorem xn_lcIP {vs : List Nat} {r1 r2 : β → Rp} {f : β → Bool} {rr : β → Rp} (h : IX Γ ti l fun a => rT K [r1 a, r2 a]) (hz : l.length ≤ 40000) (ht : ∀ a, a ∈ l → EvTX (((wipeC Γ vs).set j1 (some (r1 a))).set j2 (some (r2 a))) t (f a)) (he : ∀ a, a ∈ l → f a = true → EvX (((wipeC Γ vs).set j1 (some (r1 a))).set j2 (some (r2 a))) te (rr a)) (h1 : j1 ∈ vs := by simp) (h2 : j2 ∈ vs := by simp) : EvNX Γ (tLc ti (gP K j1 j2) t te vs) ((l.filter f).map rr) := fun σ G en H0 e Q q => by
  refine h σ G en H0 e _ fun G1 H1 J g1 it Dl hD => ?_
  refine lc_I (n := l.length) (fun i H' => Cm G1 H1 Dl (((l.take i).filter f).map rr) H') (cm_start g1.i hD) (fun i H' hi p => ?_) (fun H' p => ?_) (fun i H' x H'' hi p y => ?_) (fun H' p => ?_)
  · obtain ⟨_, G', ws, g, _, _, _⟩ := p
    exact it.goes i H' hi (g.g.trans g.i)
  · obtain ⟨_, G', ws, g, _, _, _⟩ := p
    exact it.stops H' (g.g.trans g.i)
  · have ex : Ex G1 H' := by
      obtain ⟨_, G', ws, g, _, _, _⟩ := id p
      exact g.g.trans g.i
    obtain ⟨rfl, hx⟩ := it.yld i H' x H'' hi ex y
    obtain ⟨b, hb⟩ : ∃ b, l[i]? = some b := ⟨_, List.getElem?_eq_getElem hi⟩
    have hm : b ∈ l := List.mem_of_getElem? hb
    exact gP_run (hx b hb) ex fun x y h3 h4 => ⟨wipe_turn2 σ h1 h2 x y, cm_step hb hz p (fun G2 e1 e2 => ht b hm _ G2 ((en_at (en.mono (g1.g.trans e1)) ((r1 b).mono e1 h3)).set ((r2 b).mono e1 h4) j2)) (fun hf G2 e1 e2 => he b hm hf _ G2 ((en_at (en.mono (g1.g.trans e1)) ((r1 b).mono e1 h3)).set ((r2 b).mono e1 h4) j2))⟩
  · obtain ⟨p1, G', ws, g, hG, hD', ra⟩ := p
    rw [List.take_length] at ra
    exact q Dl ws G' H' (g1.trans g) (fresh_back g1.h p1) hG hD' ra
/-- for x, y in .. -/
theorem w_forIP {r1 r2 : β → Rp} (P : Nat → α → Prop) (Γi : Nat → α → Ctx) (Mi : Nat → α → List Re) (h : IX Γ ti l fun a => rT K [r1 a, r2 a]) (a0 : α) (p0 : P 0 a0) (s0 : Sub Γ (Γi 0 a0)) (m0 : M = Mi 0 a0)
    (hs : ∀ i a x, l[i]? = some x → P i a → WP W (((Γi i a).set j1 (some (r1 x))).set j2 (some (r2 x))) (Mi i a) tu (kLoop (LI P Γi Mi (i + 1)) κ)) (hd : ∀ a, P l.length a → κ.nx (Γi l.length a) (Mi l.length a)) : WP W Γ M (tFor ti (gP K j1 j2) tu) κ := fun B G H σ D o en d => by
  refine h σ G en H o.i _ fun G1 H1 J g1 it => ?_
  have o1 := (o.gr g1).low (Ex.refl G1)
  have eb : Ex B.Gl G1 := o.l.trans g1.g
  refine for_I (n := l.length) (fun i σ' H' => Pv (B.low G1) (LI P Γi Mi i) σ' H') ⟨G1, Γ, M, o1, en.mono g1.g, a0, p0, s0, m0⟩ (fun i σ' H' hi ⟨G2, _, _, o2, _⟩ => it.goes i H' hi (o2.l.trans o2.i)) (fun σ' H' ⟨G2, _, _, o2, _⟩ => it.stops H' (o2.l.trans o2.i)) (fun i σ' H' x H'' hi ⟨G2, Γ2, M2, o2, en2, a, pa, sa, ma⟩ y => ?_) (fun σ' H' ⟨G2, Γ2, M2, o2, en2, a, pa, sa, ma⟩ => ?_)
  · have ex := o2.l.trans o2.i
    obtain ⟨rfl, hx⟩ := it.yld i H' x H'' hi ex y
    subst ma
    obtain ⟨b, hb⟩ : ∃ b, l[i]? = some b := ⟨_, List.getElem?_eq_getElem hi⟩
    have d2 := (d.low eb).loop (I := LI P Γi Mi (i + 1))
    exact gP_run (hx b hb) ex fun x y h3 h4 => hs i a b hb pa (B.low G1) G2 _ _ _ o2 (((en2.weak sa).set ((r1 b).mono o2.l h3) j1).set ((r2 b).mono o2.l h4) j2) ⟨fun σ G H Γ M o en z => d2.nx σ G H Γ M o en z, d2.rt, d2.bk, fun σ G H Γ M o en z => d2.ct σ G H Γ M o en z, d2.ex⟩
  · subst ma
    exact d.nx _ G2 H' _ _ (o2.up eb) (en2.weak sa) (hd a pa)
end
end Mu

namespace Mu
open PySem PySem.Spec PyProof.Rows L2 He Evl
/-! ### sorted(xs) of whole numbers -/
theorem cr_sortedNK (K : PySem.W.Frag) {X : Cx} (hK : X.K = K := by rfl) : CallR X (.builtin "sorted") (rSorted K) := hK ▸ cr_sorted
section
variable {W : WX} {Γ : Ctx} {M : List Re} {κ : KV} {ε : KX} {K : PySem.W.Frag} {te ta tb : TE}
theorem am_sortN {ns : List Int} (hl : ns.length < 64) (k : ∀ ns' : List Int, ns'.Perm ns → ns'.Pairwise (· ≤ ·) → κ (rL K (ns'.map rI)) M) : AM (rSorted K) [rL K (ns.map rI)] M κ := fun B G H vs o ra Q q => by
  obtain ⟨x, rfl, hx⟩ := ra1 ra
  obtain ⟨a, ws, rfl, h1, h2⟩ := hx
  have e := ra_ints_eq h2
  subst e
  refine ⟨a, ns, rfl, sq_of (o.i _ _ h1), hl, fun ns' p h3 h4 hp => ?_⟩
  have g := Gr.new (o := .lst (ns'.map V.int)) o.i hp
  exact q _ _ _ (rL K (ns'.map rI)) M (k ns' h3 h4) (o.gr g) g.g ⟨p, _, rfl, upd_same, ra_ints⟩
theorem x_mulN {m n : Nat} (ha : EvX Γ ta (nI m)) (hb : EvX Γ tb (nI n)) (h : m < 2 ^ 64 ∨ n < 2 ^ 64) : EvX Γ (tOp (L2.rI CMul fun i j => .int (i * j)) ta tb) (nI (m * n)) := x_is (x_I ha hb (by
  rcases h with h | h
  · exact .inl ⟨by omega, by omega⟩
  · exact .inr ⟨by omega, by omega⟩)) (by show rI _ = rI _; congr 1)
theorem x_divN {m n : Nat} (ha : EvX Γ ta (nI m)) (hb : EvX Γ tb (nI n)) (h : 0 < n) (h2 : n < 1073741824) : EvX Γ (tOp (L2.rI CDiv fun i j => .int (i / j)) ta tb) (nI (m / n)) := x_is (x_I ha hb ⟨by omega, by omega⟩) (by show rI _ = rI _; congr 1)
/-! ### lists of any data compared with [] -/
theorem eqv_nil {α : Type} {δ : α → PyData} (l : List α) : PyData.eqv (.list (l.map δ)) (.list []) = decide (l = []) := by
  rw [PyData.eqv]
  cases l with
  | nil => rfl
  | cons a l => rfl
theorem x_neG {α : Type} {ρ : α → Rp} {δ : α → PyData} {k : Nat} (h : ∀ a, Dt K k (ρ a) (δ a)) (hk : k + 1 ≤ 64) {l : List α} (ha : EvX Γ ta (rL K (l.map ρ))) (hb : EvX Γ tb (rL K [])) : EvX Γ (tOp (rNeD K) ta tb) (rB (!decide (l = []))) := by
  have d1 := dt_l h l
  have d2 := dt_l h []
  exact x_is (x_neD ha hb d1.as d2.as (d1.sh.ok hk) (d2.sh.ok hk)) (by rw [show PyData.list (([] : List α).map δ) = .list [] from rfl, eqv_nil])
theorem x_eqG {α : Type} {ρ : α → Rp} {δ : α → PyData} {k : Nat} (h : ∀ a, Dt K k (ρ a) (δ a)) (hk : k + 1 ≤ 64) {l : List α} (ha : EvX Γ ta (rL K (l.map ρ))) (hb : EvX Γ tb (rL K [])) : EvX Γ (tOp (rEqD K) ta tb) (rB (decide (l = []))) := by
  have d1 := dt_l h l
  have d2 := dt_l h []
  exact x_is (x_eqD ha hb d1.as d2.as (d1.sh.ok hk) (d2.sh.ok hk)) (by rw [show PyData.list (([] : List α).map δ) = .list [] from rfl, eqv_nil])
end
end Mu

namespace Mu
open PySem PySem.Spec PyProof.Rows L2 He Evl StX
/-! ### def f(*v, k): called f(a, .., k = e) -/
def FnKS (P : Program) (w : World) (K : PySem.W.Frag) (mg : Str → Option Value) (base : Heap) (CX : CXT) (k : Nat) (f : Addr) (kn : Str) (sp : Sp) : Prop :=
  ∀ (A : Around) (outer : List Env) (s : Shared) (H : Hp) (us : List Value) (vs : List V) (u : Value) (z : V) (Q : VK) (E : XK), Room k A → Env0 P w K mg base A outer s H → Vals vs us → RelV z u → vs.length ≤ sizeLine → (∀ p, H p = none → sp [z, .ref p] (upd H p (.tup vs)) Q E) →
    codeAny (model P w) A (.call (.ref f) ⟨us, [(kn, u)]⟩) (CR CX outer P w H s Q E) s
section
variable {CX : CXT} {P : Program} {w : World} {K : PySem.W.Frag} {mg : Str → Option Value} {base : Heap} {k : Nat} {f : Addr} {sp : Sp} {fd : FuncData}
theorem cxUpN : CXUp (L2N.CX P w) := by
  rintro outer s H s2 H2 E e s' un kp ho ⟨a, B, H', cls, d, ea, fl, hok, ub, na, os, ag, he⟩
  refine ⟨a, B, H', cls, d, ea, fl, hok, ⟨fun b o q n hb => ub.keep b o (kp b o q) (un.free b o q n (by simp)) hb, fun b o q hb => ub.slot b o (kp b o q) hb, fun b o q n => ub.free b o (kp b o q) (un.free b o q n (by simp)),
    fun b o q hb => ub.there b o (kp b o q) hb, fun b xs q => ub.tups b xs (un.tups b xs q), fun b o xs q => ub.frzs b o xs (un.frzs b o xs q), fun b ps q => ?_⟩, na, os.trans ho, ag, he⟩
  obtain ⟨m1, e1⟩ := un.tbls b ps q
  obtain ⟨m2, e2⟩ := ub.tbls b _ e1
  exact ⟨m1 ++ m2, by rw [e2, Array.append_assoc]⟩
theorem fn_ks {name qual : Str} {params : Arguments} {body : List Stmt} {scope : Scope} {N : List Str} {kn pv : Str} (F : FunD K name qual params body scope [] [] f fd) (S : FnScope N [kn, pv] scope) (hCX : CXUp CX)
    (h0 : ∀ (kV doc pm : Value) (an : Option Addr) (cdv ct u : Value), bindArgs (PySem.W.fnOf name qual params body scope .none kV doc pm an cdv ct) ⟨[], [(kn, u)]⟩ = (newTuple [] >>= fun t => pure [(kn, u), (pv, t)]))
    (h1 : ∀ (kV doc pm : Value) (an : Option Addr) (cdv ct u a : Value) (us : List Value), bindArgs (PySem.W.fnOf name qual params body scope .none kV doc pm an cdv ct) ⟨a :: us, [(kn, u)]⟩ = (newTuple (a :: us) >>= fun t => pure [(kn, u), (pv, t)]))
    (_len : ∀ vs H Q E, sp vs H Q E → vs.length = [kn, pv].length)
    (hbody : ∀ (cdv : Value) (A : Around) (outer : List Env) (s : Shared) (H : Hp) (vs : List V) (Q : VK) (E : XK), Room k (A.deeper (envOfC qual scope s.heap.objs.size f cdv)) → sp vs H Q E →
      ∃ t, PSs (cxOf CX P w K mg base N qual scope f cdv A outer s H E) body t ∧ t { nx := fun _ H' => Q .non H', rt := Q } (L2.start N vs) H) : FnKS P w K mg base CX (k + 1) f kn sp := by
  obtain ⟨oc, od, dV, kV, doc, pm, an, cdv, ct, osl, rfl, lk, hcd, hD, hK⟩ := F.ex
  have hdV : dV = .none := by
    rcases hD with ⟨_, e⟩ | ⟨e, _⟩
    · exact e
    · exact absurd rfl e
  subst hdV
  intro A outer s H us vs u z Q E hr e0 r rz hz hq
  have hn : H s.heap.objs.size = Option.none := e0.hok.fresh (Nat.le_refl _)
  have hl2 : us.length ≤ sizeLine := by rw [← r.length]; exact hz
  have hb : bindArgs (PySem.W.fnOf name qual params body scope .none kV doc pm an cdv ct) ⟨us, [(kn, u)]⟩ = (newTuple us >>= fun t => pure [(kn, u), (pv, t)]) := by
    cases us with
    | nil => exact h0 kV doc pm an cdv ct u
    | cons a us => exact h1 kV doc pm an cdv ct u a us
  refine run_bnd lk hcd S hr e0 (G := fun xs H2 => ∃ p, H p = Option.none ∧ xs = [z, V.ref p] ∧ H2 = upd H p (.tup vs)) (fun A' Ex Q' h => ?_) fun s2 H2 xs ⟨p, hp, ex, eH⟩ hr' => ?_
  · rw [hb]
    refine wpAny_bind (wpAny_newTuple (wpAny_pure ?_) hl2)
    have new : ObjOk P w (upd H s.heap.objs.size (.tup vs)) (s.heap.push ({ cls := .type "tuple", data := .seq us.toArray } : Obj)) s.heap.objs.size (.tup vs) := ⟨hz, us, r, ⟨_, Heap.get?_push_size _ rfl, rfl, _, rfl⟩⟩
    have un := un_laid (fs := frs outer) (s := s) (o := ({ cls := .type "tuple", data := .seq us.toArray } : Obj)) (u := .tup vs) hn
    exact h _ _ [z, V.ref s.heap.objs.size] [u, Value.ref s.heap.objs.size] (env0_laid e0 new) un rfl (fun e s' => hCX outer s H _ _ E e s' un (fun b o q => Heap.get?_push_of_some _ q) rfl) (.cons rz (.cons rfl .nil)) rfl ⟨_, hn, rfl, rfl⟩
  · subst ex eH
    exact hbody cdv A outer s2 _ _ Q E hr' (hq p hp)
end
def tCallKS (sp : Sp) (E : L2.St → XK) (t tk : TA) : TE := fun σ H Q => t σ H fun vs H1 => tk σ H1 fun zs H2 => ∃ z, zs = [z] ∧ vs.length ≤ sizeLine ∧ ∀ p, H2 p = none → sp [z, .ref p] (upd H2 p (.tup vs)) Q (E σ)
section
variable {X : Cx} {CX : CXT} {k : Nat} {f : Addr} {sp : Sp} {E : L2.St → XK} {x kn : Str} {p pos kp : Pos} {e ek : Expr} {es : List Expr} {t : TA} {te : TE}
theorem run_ks {pins : List (Addr × Obj)} {σ : L2.St} {H : Hp} {s : Shared} {Q : VK} {us : List Value} {vs : List V} {u : Value} {z : V} {E : XK} (F : FnKS X.prog X.w X.K X.mg X.base CX k f kn sp) (hr : Room k X.A) (hx : PassesAt CX X σ E)
    (I : Inv X pins σ H s) (r : Vals vs us) (rz : RelV z u) (hz : vs.length ≤ sizeLine) (h : ∀ p, H p = none → sp [z, .ref p] (upd H p (.tup vs)) Q E) : wpAny (model X.prog X.w) X.A (call (.ref f) us [(kn, u)]) (EP X pins σ Q) X.xe s := by
  refine wpAny_call (codeAny_mono (F X.A X.stack s H us vs u z Q E hr I.env0 r rz hz h) fun r s' hq => ?_)
  cases r with
  | error e => exact hx _ _ _ _ _ I hq
  | ok fl =>
    cases fl with
    | ret u => exact I.after hq
    | next => exact False.elim hq
    | brk => exact False.elim hq
    | cont => exact False.elim hq
theorem pe_callKS (F : FnKS X.prog X.w X.K X.mg X.base CX k f kn sp) (hr : Room k X.A) (hg : Gl X x) (hm : X.mg x = some (.ref f)) (hk : PySem.W.keepIn X.K (.ref f) = true) (hx : ∀ σ, PassesAt CX X σ (E σ)) (ha : PA X (e :: es) t) (he2 : PE X ek te)
    (hall : (backToKw pos (keywordEach [⟨some kn, ek, kp⟩] X.env)).all (·.1.isSome) = true := by rfl) (hks : (backToKw pos (keywordEach [⟨some kn, ek, kp⟩] X.env)).filterMap (·.1) = [kn] := by rfl)
    (hdb : (x == ("__debug__" : Str)) = false := by decide) (he : starEach (e :: es) X.env = (false, eval e X.env) :: starEach es X.env := by rfl)
    (hpl : ((backTo pos (starEach (e :: es) X.env)).any (·.1) || (backToKw pos (keywordEach [⟨some kn, ek, kp⟩] X.env)).any (·.1.isNone)) = false := by rfl) :
    PE X (.Call (.Name x p) (e :: es) [⟨some kn, ek, kp⟩] pos) (tCallKS sp E t (tCons te tNil)) := by
  refine ⟨fun pins s σ H Q I h => ?_⟩
  refine wpAny_Call_Name_kw (ld_glob I hg hm ?_ hdb)
  refine PySem.W.callWith_KW (h₀ := X.base) I.ok.mod.kin hk hall (thn (ha.run pos pins s σ H _ I h) fun us s1 ⟨vs, H1, I1, r, q⟩ => ?_) hpl he
  refine thn ((pk_cons (nm := some kn) (kpos := kp) he2 pk_nil).run pos pins s1 σ H1 _ I1 q) fun ws s2 ⟨zs, H2, I2, rz, z, ez, hl, q2⟩ => ⟨I2.kIn, ?_⟩
  subst ez
  rw [hks]
  obtain ⟨u, rfl, ru⟩ := rz.one
  exact run_ks F hr (hx σ) I2 r ru hl q2
theorem pe_callKS0 (F : FnKS X.prog X.w X.K X.mg X.base CX k f kn sp) (hr : Room k X.A) (hg : Gl X x) (hm : X.mg x = some (.ref f)) (hk : PySem.W.keepIn X.K (.ref f) = true) (hx : ∀ σ, PassesAt CX X σ (E σ)) (he2 : PE X ek te)
    (hall : (backToKw pos (keywordEach [⟨some kn, ek, kp⟩] X.env)).all (·.1.isSome) = true := by rfl) (hks : (backToKw pos (keywordEach [⟨some kn, ek, kp⟩] X.env)).filterMap (·.1) = [kn] := by rfl)
    (hdb : (x == ("__debug__" : Str)) = false := by decide)
    (hpl : ((backTo pos (starEach [] X.env)).any (·.1) || (backToKw pos (keywordEach [⟨some kn, ek, kp⟩] X.env)).any (·.1.isNone)) = false := by rfl) :
    PE X (.Call (.Name x p) [] [⟨some kn, ek, kp⟩] pos) (tCallKS sp E tNil (tCons te tNil)) := by
  refine ⟨fun pins s σ H Q I h => ?_⟩
  refine wpAny_Call_Name_kw (ld_glob I hg hm ?_ hdb)
  refine PySem.W.callWith_KW0 (h₀ := X.base) I.ok.mod.kin hk hall ?_ hpl
  refine thn ((pk_cons (nm := some kn) (kpos := kp) he2 pk_nil).run pos pins s σ H (fun zs H2 => ∃ z, zs = [z] ∧ ([] : List V).length ≤ sizeLine ∧ ∀ p, H2 p = none → sp [z, .ref p] (upd H2 p (.tup [])) Q (E σ)) I h) fun ws s2 ⟨zs, H2, I2, rz, z, ez, hl, q2⟩ => ⟨I2.kIn, ?_⟩
  subst ez
  rw [hks]
  obtain ⟨u, rfl, ru⟩ := rz.one
  exact run_ks (us := []) (vs := []) F hr (hx σ) I2 .nil ru hl q2
end
section
variable {W : WX} {Γ : Ctx} {M : List Re} {κ : KV} {ε : KX} {K : PySem.W.Frag} {sp : Sp} {ta : TA} {te : TE}
theorem e_callKS (K : PySem.W.Frag) (h : EA W Γ M ta (fun rs M1 => EW W Γ M1 te (fun r M2 => rs.length ≤ 100000 ∧ XM sp [r, rT K rs] M2 κ ε) ε) ε) : EW W Γ M (tCallKS sp (WE W) ta (tCons te tNil)) κ ε := fun B G H σ o en Q q x =>
  h B G H σ o en _ (fun vs G1 H1 rs M1 h1 o1 e1 ra => h1 B G1 H1 σ o1 (en.mono e1) _ (fun z G2 H2 r M2 h2 o2 e2 hz => ⟨z, rfl, sz_of (by rw [ra.len]; exact h2.1), fun p hp => by
    have g3 := Gr.new (o := .tup vs) o2.i hp
    exact h2.2 B _ _ _ W σ (o2.gr g3) (.cons (r.mono g3.g hz) (.cons ⟨p, vs, rfl, st_of upd_same, (ra.mono e2).mono g3.g⟩ .nil)) Q ((q.up e1).up (e2.trans g3.g)) ((x.up e1).up (e2.trans g3.g))⟩) (x.up e1)) x
theorem e_callKN (K : PySem.W.Frag) {E : L2.St → XK} (h : EA W Γ M ta (fun rs M1 => EW W Γ M1 te (fun r M2 => rs.length ≤ 100000 ∧ CM sp [r, rT K rs] M2 κ) ε) ε) : EW W Γ M (tCallKS sp E ta (tCons te tNil)) κ ε := fun B G H σ o en Q q x =>
  h B G H σ o en _ (fun vs G1 H1 rs M1 h1 o1 e1 ra => h1 B G1 H1 σ o1 (en.mono e1) _ (fun z G2 H2 r M2 h2 o2 e2 hz => ⟨z, rfl, sz_of (by rw [ra.len]; exact h2.1), fun p hp => by
    have g3 := Gr.new (o := .tup vs) o2.i hp
    exact h2.2 (E σ) B _ _ _ (o2.gr g3) (.cons (r.mono g3.g hz) (.cons ⟨p, vs, rfl, st_of upd_same, (ra.mono e2).mono g3.g⟩ .nil)) Q ((q.up e1).up (e2.trans g3.g))⟩) (x.up e1)) x
end
end Mu

namespace Mu
open PySem PySem.Spec PyProof.Rows L2 He Evl StX
/-! ### a dict of one's own that is locked for a statement, lent -/
section
variable {M : List Re} {cs : Addr → Bool} {p : Addr} {od : Obj} {ws : List (Key × V)} {kvs : List (Key × Rp)} {k : Nat}
theorem bx_frz (hk : M[k]? = some (frzR p od ws kvs)) : BxR cs M (rV (.ref p)) (rD true kvs) := fun B G H o v hv => by
  obtain rfl : v = V.ref p := hv
  have hm := List.mem_of_getElem? hk
  obtain ⟨h1, h2⟩ := o.m _ hm
  have hf := mem_feet hm (List.mem_singleton.mpr rfl)
  exact ⟨p, ws, rfl, .inl ⟨od, borX_at (o.z p hf) hf h1 rfl⟩, h2.mono borX_g⟩
end
/-! ### dicts whose keys are whole numbers -/
abbrev kI (n : Nat) : Key := Sum.inl (n : Int)
section
variable {W : WX} {Γ : Ctx} {M : List Re} {κ : KV} {ε : KX} {K : PySem.W.Frag} {rs : List Rp} {r : Rp} {ta tb td tx : TE} {p : Addr} {kvs : List (Key × Rp)} {z : Bool}
theorem ix_KN {l : List Nat} (h : EvX Γ td (rD true kvs)) (e : kvs.map (·.1) = l.map kI) : IX Γ (iKeys td) l nI := by
  have z := ix_K h
  rw [e] at z
  exact z.map
theorem am_listKN {l : List Nat} (hk : kvs.map (·.1) = l.map kI) (kk : κ (rLn K l) M) : AM rListK [rD z kvs] M κ := fun B G H vs o ra Q q => by
  obtain ⟨x, rfl, hx⟩ := ra1 ra
  obtain ⟨d, ws, rfl, h2, h3⟩ := rD_get hx o.i
  refine ⟨d, ws, rfl, h2, fun p hp => ?_⟩
  have e : (ws.map fun kv => kV kv.1) = l.map fun (n : Nat) => V.int (n : Int) := by
    rw [show (ws.map fun kv => kV kv.1) = (ws.map (·.1)).map kV by rw [List.map_map]; rfl, h3.keys, hk, List.map_map]; rfl
  rw [e]
  have g := Gr.new (o := .lst (l.map fun (n : Nat) => V.int (n : Int))) o.i hp
  exact q _ _ _ (rLn K l) M kk (o.gr g) g.g ⟨p, _, rfl, upd_same, ra_nats⟩
/-- del d[k] -/
theorem ws_ddelK {κ : Kn} (idx : Nat) (h : EW W Γ M td (fun r1 M2 => ∃ p, r1 = rV (.ref p) ∧ EW W Γ M2 ta (fun r2 M3 => ∃ k kvs, r2 = rV (kV k) ∧ M3[idx]? = some (dicR p kvs) ∧ (valA kvs k).isSome = true ∧ κ.nx Γ (M3.set idx (dicR p (dropA kvs k)))) (κ.ex Γ)) (κ.ex Γ)) : WP W Γ M (sDDel td ta) κ := fun B G H σ D o en d => by
  have dx : ∀ {G1 : Hp}, Ex G G1 → GoX B G1 (κ.ex Γ) W σ := fun e cls fs dd G' H' M' k o' e' xd => d.ex σ G' H' Γ M' cls dd fs o' (en.mono (e.trans e')) xd k
  refine h B G H σ o en _ (fun x G2 H2 r1 M2 h2 o2 e2 hx => ?_) (dx (Ex.refl _))
  obtain ⟨p, rfl, h3⟩ := h2
  obtain rfl : x = V.ref p := hx
  refine h3 B G2 H2 σ o2 (en.mono e2) _ (fun y G3 H3 r2 M3 h4 o3 e3 hy => ?_) (dx e2)
  obtain ⟨s, kvs, rfl, hk, hs, kk⟩ := h4
  obtain rfl : y = kV s := hy
  obtain ⟨ws, q2, q3⟩ := o3.m _ (List.mem_of_getElem? hk)
  exact ⟨p, ws, s, rfl, q2, rfl, by rw [q3.isSome]; exact hs, d.nx σ G3 _ Γ _ (o3.chgD hk q3.drop) (en.mono (e2.trans e3)) kk⟩
/-- d.pop(k), k there; the answer is dropped -/
theorem e_dpop1K (idx : Nat) (h : EW W Γ M td (fun r1 M1 => ∃ p kvs0, r1 = rV (.ref p) ∧ M1[idx]? = some (dicR p kvs0) ∧ EW W Γ M1 ta (fun r2 M2 => ∃ s kvs v, r2 = rV (kV s) ∧ M2[idx]? = some (dicR p kvs) ∧ valA kvs s = some v ∧ κ v (M2.set idx (dicR p (dropA kvs s)))) ε) ε) : EW W Γ M (tDPop1 td ta) κ ε := fun B G H σ o en Q q x =>
  h B G H σ o en _ (fun v1 G1 H1 r1 M1 z o1 e1 hv1 => by
    obtain ⟨p, kvs0, rfl, hk, z2⟩ := z
    obtain rfl : v1 = V.ref p := hv1
    obtain ⟨ws0, w1, _⟩ := o1.m _ (List.mem_of_getElem? hk)
    refine ⟨p, rfl, .inl ⟨ws0, .inl w1⟩, z2 B G1 H1 σ o1 (en.mono e1) _ (fun v2 G2 H2 r2 M2 z3 o2 e2 hv2 => ?_) (x.up e1)⟩
    obtain ⟨s, kvs, v, rfl, hk2, hv, kk⟩ := z3
    obtain rfl : v2 = kV s := hv2
    obtain ⟨ws, w2, w3⟩ := o2.m _ (List.mem_of_getElem? hk2)
    have hh := w3.val s
    rw [hv] at hh
    obtain ⟨u, h4, h5⟩ := hh
    exact ⟨ws, s, u, w2, rfl, h4, q u G2 _ v _ kk (o2.chgD hk2 w3.drop) (e1.trans e2) h5⟩) x
/-- d.pop(k, x) -/
theorem e_dpop2K (idx : Nat) (h : EW W Γ M td (fun r1 M1 => ∃ p kvs0, r1 = rV (.ref p) ∧ M1[idx]? = some (dicR p kvs0) ∧ EW W Γ M1 ta (fun r2 M2 => EW W Γ M2 tx (fun r3 M3 => ∃ s kvs, r2 = rV (kV s) ∧ M3[idx]? = some (dicR p kvs) ∧ (∀ v, valA kvs s = some v → κ v (M3.set idx (dicR p (dropA kvs s)))) ∧ (valA kvs s = none → κ r3 M3)) ε) ε) ε) : EW W Γ M (tDPop2 td ta tx) κ ε := fun B G H σ o en Q q x =>
  h B G H σ o en _ (fun v1 G1 H1 r1 M1 z o1 e1 hv1 => by
    obtain ⟨p, kvs0, rfl, hk, z2⟩ := z
    obtain rfl : v1 = V.ref p := hv1
    obtain ⟨ws0, w1, _⟩ := o1.m _ (List.mem_of_getElem? hk)
    refine ⟨p, rfl, .inl ⟨ws0, .inl w1⟩, z2 B G1 H1 σ o1 (en.mono e1) _ (fun v2 G2 H2 r2 M2 z3 o2 e2 hv2 => ?_) (x.up e1)⟩
    refine z3 B G2 H2 σ o2 (en.mono (e1.trans e2)) _ (fun v3 G3 H3 r3 M3 z4 o3 e3 hv3 => ?_) (x.up (e1.trans e2))
    obtain ⟨s, kvs, rfl, hk2, kk1, kk2⟩ := z4
    obtain rfl : v2 = kV s := hv2
    obtain ⟨ws, w2, w3⟩ := o3.m _ (List.mem_of_getElem? hk2)
    have hh := w3.val s
    refine ⟨ws, s, w2, rfl, fun u hu => ?_, fun hu => ?_⟩
    · cases e : valA kvs s with
      | none => rw [e] at hh; rw [hh] at hu; cases hu
      | some v =>
        rw [e] at hh
        obtain ⟨u', h4, h5⟩ := hh
        rw [h4] at hu
        cases hu
        exact q _ G3 _ v _ (kk1 v e) (o3.chgD hk2 w3.drop) (e1.trans (e2.trans e3)) h5
    · cases e : valA kvs s with
      | none => exact q _ G3 _ r3 _ (kk2 e) o3 (e1.trans (e2.trans e3)) hv3
      | some v =>
        rw [e] at hh
        obtain ⟨u', h4, h5⟩ := hh
        rw [h4] at hu
        cases hu) x
end
/-! ### entries by number -/
section
variable {α : Type} {ρ : α → Rp} {cl : List (Nat × α)} {n m : Nat} {a : α}
def kvN (ρ : α → Rp) (cl : List (Nat × α)) : List (Key × Rp) := cl.map fun e => (kI e.1, ρ e.2)
def valN (cl : List (Nat × α)) (n : Nat) : Option α := (cl.find? fun e => decide (e.1 = n)).map (·.2)
def hasN (cl : List (Nat × α)) (n : Nat) : Bool := cl.any fun e => decide (e.1 = n)
def dropN (cl : List (Nat × α)) (n : Nat) : List (Nat × α) := cl.filter fun e => decide (e.1 ≠ n)
theorem kI_inj : (kI n = kI m) ↔ n = m := by
  unfold kI
  constructor
  · intro h; injection h with h; exact Int.ofNat_inj.mp h
  · intro h; rw [h]
theorem val_kvN : valA (kvN ρ cl) (kI n) = (valN cl n).map ρ := by
  unfold valA valN kvN
  induction cl with
  | nil => rfl
  | cons e cl ih =>
    rw [List.map_cons, List.find?_cons, List.find?_cons]
    have h : decide (kI e.1 = kI n) = decide (e.1 = n) := dec_iff kI_inj
    dsimp only
    rw [h]
    cases decide (e.1 = n)
    · exact ih
    · rfl
theorem has_valN : (valN cl n).isSome = hasN cl n := by
  unfold valN hasN
  induction cl with
  | nil => rfl
  | cons e cl ih =>
    rw [List.find?_cons, List.any_cons]
    cases decide (e.1 = n)
    · exact ih
    · rfl
theorem has_kvN : (valA (kvN ρ cl) (kI n)).isSome = hasN cl n := by rw [val_kvN, ← has_valN]; cases valN cl n <;> rfl
theorem neg_kvN {k : Nat} : (valA (kvN ρ cl) (Sum.inl (-(k : Int) - 1))).isSome = false := by
  unfold valA kvN
  induction cl with
  | nil => rfl
  | cons e cl ih =>
    rw [List.map_cons, List.find?_cons]
    have h : decide (kI e.1 = (Sum.inl (-(k : Int) - 1) : Key)) = false := decide_eq_false fun z => by
      injection z with z
      omega
    dsimp only
    rw [h]
    exact ih
theorem any_kvN : ((kvN ρ cl).any fun kv => decide (kv.1 = kI n)) = hasN cl n := by
  unfold kvN hasN
  rw [List.any_map]
  congr 1
  funext e
  exact dec_iff kI_inj
theorem put_kvN (h : hasN cl n = false) : putA (kvN ρ cl) (kI n) (ρ a) = kvN ρ (cl ++ [(n, a)]) := by
  unfold putA
  rw [any_kvN, h]
  unfold kvN
  rw [List.map_append]
  rfl
theorem drop_kvN : dropA (kvN ρ cl) (kI n) = kvN ρ (dropN cl n) := by
  unfold dropA dropN kvN
  rw [List.filter_map]
  congr 1
  refine List.filter_congr fun e _ => ?_
  exact dec_iff (not_congr kI_inj)
theorem keys_kvN : (kvN ρ cl).map (·.1) = (cl.map (·.1)).map kI := by
  unfold kvN
  rw [List.map_map, List.map_map]; rfl
theorem len_kvN : (kvN ρ cl).length = cl.length := List.length_map _
theorem hasN_mem : hasN cl n = true ↔ n ∈ cl.map (·.1) := by
  unfold hasN
  rw [List.any_eq_true, List.mem_map]
  exact ⟨fun ⟨e, h, q⟩ => ⟨e, h, of_decide_eq_true q⟩, fun ⟨e, h, q⟩ => ⟨e, h, decide_eq_true q⟩⟩
theorem len_dropN : (dropN cl n).length ≤ cl.length := List.length_filter_le _ _
end
/-! ### C(..) of an own class whose __init__ changes things -/
section
variable {W : WX} {Γ : Ctx} {M : List Re} {κ : KV} {ε : KX} {ta : TA} {C : Addr} {R : List V → Hp → List Re → KV → KX → Prop}
theorem Ok.newI {B : Ba} {G H : Hp} (o : Ok B G H M) {p dx : Addr} (hp : H p = none) (hdx : H dx = none) (ne : dx ≠ p) : Ok B G (upd (upd H dx (.own p)) p (.ins C dx [])) (M ++ [insR true p C []]) := by
  have hp1 : upd H dx (.own p) p = none := by rw [upd_ne (Ne.symm ne)]; exact hp
  have g1 := Gr.out (o := .own p) o.i hdx
  have g2 : Gr G (upd H dx (.own p)) G (upd (upd H dx (.own p)) p (.ins C dx [])) := Gr.out g1.i hp1
  have gp : G p = none := fresh_back o.i hp
  exact (o.gr g1).add (R := insR true p C []) g2 (show [p].Nodup by simp) (fun a ha => by rw [List.mem_singleton.mp ha]; exact ⟨hp1, gp⟩) ⟨dx, [], upd_same, .nil⟩
theorem e_makeN {E : XK} (h : EA W Γ M ta (fun rs M1 => ∀ p vs G, RA G vs (rV (.ref p) :: rs) → R vs G (M1 ++ [insR true p C []]) (fun r M' => r = rV .non ∧ κ (rV (.ref p)) M') (fun _ _ _ => False)) ε) : EW W Γ M (tMake C (spC R) [] E ta) κ ε := fun B G H σ o en Q q x =>
  h B G H σ o en _ (fun vs G1 H1 rs M1 h1 o1 e1 ra => fun p dx hp hdx ne => by
    rw [List.append_nil]
    refine ⟨B, G1, _, _, _, o1.newI hp hdx ne, h1 p _ G1 (.cons rfl ra), fun v G' H' r M' z o' e' hv => ?_, fun _ _ _ _ _ _ z => z.elim⟩
    obtain ⟨rfl, kk⟩ := z
    obtain rfl : v = V.non := hv
    exact ⟨rfl, q _ G' H' _ M' kk o' (e1.trans e') rfl⟩) x
theorem e_makeNS (h : EA W Γ M ta (fun rs M1 => ∀ p vs G, RA G vs (rV (.ref p) :: rs) → R vs G (M1 ++ [insR true p C []]) (fun r M' => r = rV .non ∧ κ (rV (.ref p)) M') (fun c fs M' => ε c fs M')) ε) : EW W Γ M (tMakeS C (spC R) (WE W) ta) κ ε := fun B G H σ o en Q q x =>
  h B G H σ o en _ (fun vs G1 H1 rs M1 h1 o1 e1 ra => fun p dx hp hdx ne => by
    refine ⟨B, G1, _, _, _, o1.newI hp hdx ne, h1 p _ G1 (.cons rfl ra), fun v G' H' r M' z o' e' hv => ?_, fun cls fs d G' H' M' z o' e' xd => (x.up e1) cls fs d G' H' M' z o' e' xd⟩
    obtain ⟨rfl, kk⟩ := z
    obtain rfl : v = V.non := hv
    exact ⟨rfl, q _ G' H' _ M' kk o' (e1.trans e') rfl⟩) x
end
/-! range(i, j); sorted(xs), the answer our own -/
theorem ix_R2 {Γ : Ctx} {ta tb : TE} {i0 j0 : Int} {n : Nat} (ha : EvX Γ ta (rI i0)) (hb : EvX Γ tb (rI j0)) (hi : -1000000 ≤ i0 ∧ i0 ≤ 1000000) (hn : j0 = i0 + n) (hn2 : n ≤ 100000) : IX Γ (iRng2 (tCons ta (tCons tb tNil))) (List.range n) (fun k => rI (i0 + (k : Int))) := fun σ G en H e R q => ha σ G en H e _ fun v G1 H1 g1 hv => hb σ G1 (en.mono g1.g) H1 g1.i _ fun v2 G2 H2 g2 hv2 => by
  obtain rfl : v = V.int i0 := hv
  obtain rfl : v2 = V.int j0 := hv2
  have e0 : (j0 - i0).toNat = n := by omega
  refine ⟨i0, j0, rfl, by omega, q G2 H2 _ (g1.trans g2) ⟨fun i H' hi ex => ?_, fun H' ex => ?_, fun i H' x H'' hi ex y => ?_⟩⟩
  · show i < (j0 - i0).toNat
    rw [List.length_range] at hi
    omega
  · show (j0 - i0).toNat ≤ (List.range n).length
    rw [List.length_range]
    omega
  · obtain ⟨y1, y2⟩ := y
    refine ⟨y1, fun b hb => ?_⟩
    rw [List.length_range] at hi
    rw [List.getElem?_range hi] at hb
    cases hb
    exact y2
theorem am_sortNO {M : List Re} {κ : KV} {K : PySem.W.Frag} {ns : List Int} (hl : ns.length < 64) (k : ∀ ns' : List Int, ns'.Perm ns → ns'.Pairwise (· ≤ ·) → ∀ p, κ (rV (.ref p)) (M ++ [lstR p (ns'.map rI)])) : AM (rSorted K) [rL K (ns.map rI)] M κ := fun B G H vs o ra Q q => by
  obtain ⟨x, rfl, hx⟩ := ra1 ra
  obtain ⟨a, ws, rfl, h1, h2⟩ := hx
  have e := ra_ints_eq h2
  subst e
  refine ⟨a, ns, rfl, sq_of (o.i _ _ h1), hl, fun ns' p h3 h4 hp => ?_⟩
  have gp := fresh_back o.i hp
  have g3 := Gr.out (o := .lst (ns'.map V.int)) o.i hp
  exact q _ G _ (rV (.ref p)) _ (k ns' h3 h4 p) (o.add (R := lstR p (ns'.map rI)) g3 (show [p].Nodup by simp) (fun a ha => by rw [List.mem_singleton.mp ha]; exact ⟨hp, gp⟩) ⟨_, upd_same, ra_ints⟩) (Ex.refl _) rfl
theorem sort_is {l : List Nat} (hs : l.Pairwise (· < ·)) {ns : List Int} (hp : ns.Perm (l.map fun n : Nat => (n : Int))) (ho : ns.Pairwise (· ≤ ·)) : ns = l.map fun n : Nat => (n : Int) :=
  List.Perm.eq_of_pairwise (le := fun a b : Int => a ≤ b) (fun a b _ _ h1 h2 => by omega) ho (by
    rw [List.pairwise_map]
    exact hs.imp fun h => by omega) hp
theorem set_s {M : List Re} {R R' : Re} {k : Nat} (h : M[k]? = some R) : (M.set k R')[k]? = some R' := by
  rw [List.getElem?_set_self', h]; rfl
theorem set_n {M : List Re} {R R' : Re} {k k2 : Nat} (hn : k2 ≠ k) (h : M[k]? = some R) : (M.set k2 R')[k]? = some R := by rw [List.getElem?_set_ne hn]; exact h
theorem get_app {M N : List Re} {R : Re} {k : Nat} (h : M[k]? = some R) : (M ++ N)[k]? = some R := by
  rw [List.getElem?_append_left (List.getElem?_eq_some_iff.mp h).1]; exact h
theorem set_app {M N : List Re} {R R' : Re} {k : Nat} (h : M[k]? = some R) : (M ++ N).set k R' = M.set k R' ++ N := List.set_append_left _ _ (List.getElem?_eq_some_iff.mp h).1
/-! a method of an own instance, by a promise with changes -/
theorem e_methK {W : WX} {Γ : Ctx} {M : List Re} {κ : KV} {ε : KX} {ta : TA} {f : Str} {C p : Addr} {fs : FL} {own : Bool} {sp : Sp} {E : XK} {i : Nat} (idx : Nat) (hi : Γ[i]? = some (some (rV (.ref p)))) (hk : M[idx]? = some (insR own p C fs)) (hl : fs.lookup f = none) (h : EA W Γ M ta (fun rs M1 => CM sp (rV (.ref p) :: rs) M1 κ) ε) : EW W Γ M (tMeth C f sp [] E (tVar i) ta) κ ε := fun B G H σ o en Q q x => by
  obtain ⟨v, h1, h2⟩ := en.get hi
  obtain rfl : v = V.ref p := h2
  obtain ⟨dx, ws, h3, h4⟩ := o.m _ (List.mem_of_getElem? hk)
  refine ⟨.ref p, h1, p, dx, ws, rfl, h3, h4.noget hl, h B G H σ o en _ (fun vs G1 H1 rs M1 k1 o1 e1 ra => ?_) x⟩
  rw [List.append_nil]
  exact k1 E B G1 H1 _ o1 (.cons rfl ra) Q (q.up e1)
/-! d != {}; list(d) of our own dict -/
def rNe0 : R2 := fun x y H Q => ∃ a b ks, x = .ref a ∧ y = .ref b ∧ H a = some (.dK ks) ∧ H b = some (.dK []) ∧ Q (.bl (!decide (ks.length = 0))) H
theorem op_ne0 {X : Cx} (hu : X.A.units < cLine) : OpR X (compareOp .NotEq) rNe0 := by
  intro pins s σ H x y v u Q I rx ry h
  obtain ⟨a, b, ks, rfl, rfl, ea, eb, q⟩ := h
  obtain rfl : v = Value.ref a := rx
  obtain rfl : u = Value.ref b := ry
  obtain ⟨_, ya, va, ra, da⟩ := (show ObjOk X.prog X.w H s.heap a (.dK ks) from I.hok a _ ea)
  obtain ⟨_, yb, vb, rb, db⟩ := (show ObjOk X.prog X.w H s.heap b (.dK []) from I.hok b _ eb)
  have hl := ra.length
  have hb0 := rb.length
  exact PySem.W.keq_ne (knd := mixKind X.prog X.w) (r := true) ya yb da db hu (fun e => by
    have : va = [] := List.length_eq_zero_iff.mp (by rw [e, ← hb0]; rfl)
    subst this
    exact .nil) (fin_bl I q (by rw [← hl, ← hb0]; cases ks <;> simp))
section
variable {M : List Re} {κ : KV} {K : PySem.W.Frag} {p p2 : Addr} {kvs : List (Key × Rp)}
theorem om_ne0 (idx idx2 : Nat) (hk : M[idx]? = some (dicR p kvs)) (hk2 : M[idx2]? = some (dicR p2 [])) (kk : κ (rB (!decide (kvs.length = 0))) M) : OM rNe0 (rV (.ref p)) (rV (.ref p2)) M κ := fun B G H x y o hx hy Q q => by
  obtain rfl : x = V.ref p := hx
  obtain rfl : y = V.ref p2 := hy
  obtain ⟨ws, h2, h3⟩ := o.m _ (List.mem_of_getElem? hk)
  obtain ⟨ws2, h4, h5⟩ := o.m _ (List.mem_of_getElem? hk2)
  cases h5
  exact ⟨p, p2, ws, rfl, rfl, h2, h4, q _ G H _ M kk o (Ex.refl _) (by rw [h3.len]; rfl)⟩
theorem am_listKNO {l : List Nat} (idx : Nat) (hM : M[idx]? = some (dicR p kvs)) (hk : kvs.map (·.1) = l.map kI) (kk : κ (rLn K l) M) : AM rListK [rV (.ref p)] M κ := fun B G H vs o ra Q q => by
  obtain ⟨x, rfl, hx⟩ := ra1 ra
  obtain rfl : x = V.ref p := hx
  obtain ⟨ws, h2, h3⟩ := o.m _ (List.mem_of_getElem? hM)
  refine ⟨p, ws, rfl, .inl h2, fun a hp => ?_⟩
  have e : (ws.map fun kv => kV kv.1) = l.map fun (n : Nat) => V.int (n : Int) := by
    rw [show (ws.map fun kv => kV kv.1) = (ws.map (·.1)).map kV by rw [List.map_map]; rfl, h3.keys, hk, List.map_map]; rfl
  rw [e]
  have g := Gr.new (o := .lst (l.map fun (n : Nat) => V.int (n : Int))) o.i hp
  exact q _ _ _ (rLn K l) M kk (o.gr g) g.g ⟨a, _, rfl, upd_same, ra_nats⟩
end
/-! an own dict that stays from here on, known as a field only; a comprehension over what was drawn -/
section
variable {B : Ba} {G H : Hp} {M : List Re} {R R' : Re} {k : Nat} {W : WX} {Γ : Ctx} {t : TS} {κ : Kn}
theorem Ok.swap (o : Ok B G H M) (hk : M[k]? = some R) (hf : R'.ft = R.ft) (ho : R'.own = R.own) (m : R.p G H → R'.p G H) : Ok B G H (M.set k R') :=
  o.chg hk hf ho (Ex.refl _) (fun _ _ z _ => z) o.i (fun _ _ _ y => y) (m (o.m _ (List.mem_of_getElem? hk)))
theorem fs_fld {G : Hp} {f : Str} {e : Addr} {r : Rp} (hr : r.p (.ref e) G) : ∀ {fs : FL} {ws : List (Str × V)} {j : Nat}, fs[j]? = some (f, rV (.ref e)) → FsR G ws fs → FsR G ws (fs.set j (f, r))
  | _, _, _, h, .nil => by simp at h
  | _, _, 0, h, .cons a t => by
    simp at h
    subst h
    refine .cons ⟨a.1, ?_⟩ t
    have q : _ = V.ref e := a.2
    rw [q]
    exact hr
  | _, _, j + 1, h, .cons a t => .cons a (fs_fld hr (j := j) (by simpa using h) t)
theorem w_frzF {own : Bool} {p e C : Addr} {fs : FL} {kvs : List (Key × Rp)} {f : Str} (ki kd j : Nat) (hi : (M.eraseIdx kd)[ki]? = some (insR own p C fs)) (hd : M[kd]? = some (dicR e kvs)) (hf : fs[j]? = some (f, rV (.ref e))) (h : WP W Γ ((M.eraseIdx kd).set ki (insR own p C (fs.set j (f, rD true kvs)))) t κ) : WP W Γ M (tPre t) κ := fun B G H σ D o en d => by
  obtain ⟨ws, h1, h2⟩ := o.frzD hd
  refine .inr ⟨e, .dK ws, h1, trivial, fun od => ?_⟩
  obtain ⟨G2, e2, o2, hr⟩ := h2 od
  exact h B G2 _ σ D (o2.swap (R' := insR own p C (fs.set j (f, rD true kvs))) hi rfl rfl fun ⟨dx, vs, q1, q2⟩ => ⟨dx, vs, q1, fs_fld hr hf q2⟩) (en.mono e2) d
end
section
variable {W : WX} {Γ : Ctx} {M : List Re} {κ : KV} {ε : KX} {K : PySem.W.Frag} {tl te : TE} {t : TT} {j : Nat} {vs : List Nat} {α : Type}
theorem e_lcLW (h : EW W Γ M tl (fun r M1 => ∃ (l : List α) (ρ : α → Rp) (f : α → Bool) (rr : α → Rp), r = rL K (l.map ρ) ∧ l.length ≤ 40000 ∧ (∀ a, a ∈ l → EvTX ((wipeC Γ vs).set j (some (ρ a))) t (f a)) ∧ (∀ a, a ∈ l → f a = true → EvX ((wipeC Γ vs).set j (some (ρ a))) te (rr a)) ∧ ∀ p, κ (rV (.ref p)) (M1 ++ [lstR p ((l.filter f).map rr)])) ε) (hj : j ∈ vs) : EW W Γ M (tLc (iList K tl) (gName j) t te vs) κ ε := fun B G H σ o en Q q x =>
  h B G H σ o en (fun v H1 => tLc (iList K (fun _ H Q => Q v H)) (gName j) t te vs σ H1 Q) (fun v G1 H1 r M1 z o1 e1 hv => by
    obtain ⟨l, ρ, f, rr, rfl, hz, ht, he, kk⟩ := z
    refine en_lcL (K := K) (σ := σ) (G := G1) l ρ f rr (fun H e Q q => q v G1 H (Gr.refl e) hv) hz (fun x => wipe_turn σ hj x) (fun a y G2 ha e2 hy => ht a ha _ _ ?_) (fun a y G2 ha hf e2 hy => he a ha hf _ _ ?_) H1 o1.i Q fun p ws G2 H2 g hp gp h2 ra => ?_
    · exact (((en.mono e1).mono e2).wipe vs).set hy j
    · exact (((en.mono e1).mono e2).wipe vs).set hy j
    · exact q (.ref p) G2 H2 (rV (.ref p)) _ (kk p) (o1.add (R := lstR p ((l.filter f).map rr)) g (show [p].Nodup by simp) (fun a ha => by rw [List.mem_singleton.mp ha]; exact ⟨hp, gp⟩) ⟨ws, h2, ra⟩) (e1.trans g.g) rfl) x
end
theorem EW.frzI {W : WX} {Γ : Ctx} {M : List Re} {te : TE} {κ : KV} {ε : KX} (h : EW W Γ M te (fun r M' => ∃ p C fs M1, r = rV (.ref p) ∧ M' = M1 ++ [insR true p C fs] ∧ κ (rIns C fs) M1) ε) : EW W Γ M te κ ε := fun B G H σ o en Q q x => h B G H σ o en Q q.frzI x
/-- len([1 for k in d if ..]), d by number -/
theorem x_countKN {Γ : Ctx} {K : PySem.W.Frag} {α : Type} {ρ : α → Rp} {cl : List (Nat × α)} (f : Nat × α → Bool) {td : TE} {t : TT} {j : Nat} {vs : List Nat} (h : EvX Γ td (rD true (kvN ρ cl))) (hz : cl.length ≤ 40000) (ht : ∀ e, e ∈ cl → EvTX ((wipeC Γ vs).set j (some (nI e.1))) t (f e)) (hj : j ∈ vs) : EvX Γ (tCB (rLenS K) (tCons (tLc (iKeys td) (gName j) t (tC (.int 1)) vs) tNil)) (nI (cl.filter f).length) :=
  x_lenLm (l := cl.filter f) (ρ := fun _ => nI 1) (EvNX.d (K := K) (xn_lcI (l := cl) (ρ := fun e => nI e.1) (f := f) (rr := fun _ => nI 1) (IX.map (f := fun e : Nat × α => e.1) (ρ := nI) (ix_KN h keys_kvN)) hz ht (fun _ _ _ => x_cn 1) hj))
/-! data in a list of data; four and five parts taken apart -/
section
variable {Γ : Ctx} {M : List Re} {W : WX} {κ : Kn} {K : PySem.W.Frag} {te ta tb : TE} {α : Type} [DecidableEq α] {ρ : α → Rp} {δ : α → PyData} {k j1 j2 j3 j4 j5 : Nat} {p : α} {l : List α} {r1 r2 r3 r4 r5 : Rp}
theorem any_G (he : ∀ a b, PyData.eqv (δ a) (δ b) = decide (a = b)) : ((l.map δ).any fun z => PyData.eqv z (δ p)) = decide (p ∈ l) := by
  rw [List.any_map, Bool.eq_iff_iff, List.any_eq_true, decide_eq_true_iff]
  constructor
  · rintro ⟨x, hx, h⟩
    have h2 : PyData.eqv (δ x) (δ p) = true := h
    rw [he] at h2
    rw [← of_decide_eq_true h2]; exact hx
  · intro h
    exact ⟨p, h, by show PyData.eqv (δ p) (δ p) = true; rw [he]; simp⟩
theorem x_niG (h : ∀ a, Dt K k (ρ a) (δ a)) (hk : k + 1 ≤ 64) (he : ∀ a b, PyData.eqv (δ a) (δ b) = decide (a = b)) (ha : EvX Γ ta (ρ p)) (hb : EvX Γ tb (rL K (l.map ρ))) : EvX Γ (tOp (rNotInD K) ta tb) (rB (!decide (p ∈ l))) := fun σ G en =>
  have d1 := h p
  have d2 := dt_l h l
  Ev.d (ev_op2 (ha σ G en) (hb σ G en) fun x y H hx hy Q q => ⟨δ p, l.map δ, d1.as x H hx, d2.as y H hy, d1.sh.ok (by omega), d2.sh.ok hk, by rw [any_G he]; exact q⟩)
theorem x_inG (h : ∀ a, Dt K k (ρ a) (δ a)) (hk : k + 1 ≤ 64) (he : ∀ a b, PyData.eqv (δ a) (δ b) = decide (a = b)) (ha : EvX Γ ta (ρ p)) (hb : EvX Γ tb (rL K (l.map ρ))) : EvX Γ (tOp (rInD K) ta tb) (rB (decide (p ∈ l))) := fun σ G en =>
  have d1 := h p
  have d2 := dt_l h l
  Ev.d (ev_op2 (ha σ G en) (hb σ G en) fun x y H hx hy Q q => ⟨δ p, l.map δ, d1.as x H hx, d2.as y H hy, d1.sh.ok (by omega), d2.sh.ok hk, by rw [any_G he]; exact q⟩)
/-- a, b, c, d = e -/
theorem w_un4 (h : EvX Γ te (rT K [r1, r2, r3, r4])) (hn : κ.nx ((((Γ.set j1 (some r1)).set j2 (some r2)).set j3 (some r3)).set j4 (some r4)) M) : WP W Γ M (tAsg te (gTup K 4 (gCons (gName j1) (gCons (gName j2) (gCons (gName j3) (gCons (gName j4) gNil)))))) κ := fun B G H σ D o en d =>
  h σ G en H o.i _ fun v G2 H2 g hv => by
    obtain ⟨a, vs, rfl, h1, h2⟩ := hv
    cases h2 with
    | cons hx h2 =>
      cases h2 with
      | cons hx2 h2 =>
        obtain ⟨y, z, rfl, hy, hz⟩ := ra2 h2
        exact ⟨a, _, rfl, ex_t g.i h1, rfl, _, _, rfl, _, _, rfl, y, _, rfl, z, [], rfl, rfl, d.nx _ G2 H2 _ M (o.gr g) (((((en.mono g.g).set hx j1).set hx2 j2).set hy j3).set hz j4) hn⟩
/-- a, b, c, d, e = e -/
theorem w_un5 (h : EvX Γ te (rT K [r1, r2, r3, r4, r5])) (hn : κ.nx (((((Γ.set j1 (some r1)).set j2 (some r2)).set j3 (some r3)).set j4 (some r4)).set j5 (some r5)) M) : WP W Γ M (tAsg te (gTup K 5 (gCons (gName j1) (gCons (gName j2) (gCons (gName j3) (gCons (gName j4) (gCons (gName j5) gNil))))))) κ := fun B G H σ D o en d =>
  h σ G en H o.i _ fun v G2 H2 g hv => by
    obtain ⟨a, vs, rfl, h1, h2⟩ := hv
    cases h2 with
    | cons hx h2 =>
      cases h2 with
      | cons hx2 h2 =>
        cases h2 with
        | cons hx3 h2 =>
          obtain ⟨y, z, rfl, hy, hz⟩ := ra2 h2
          exact ⟨a, _, rfl, ex_t g.i h1, rfl, _, _, rfl, _, _, rfl, _, _, rfl, y, _, rfl, z, [], rfl, rfl, d.nx _ G2 H2 _ M (o.gr g) ((((((en.mono g.g).set hx j1).set hx2 j2).set hx3 j3).set hy j4).set hz j5) hn⟩
end
/-! int(a truth); xs[j] = e, j read last -/
theorem x_intB {Γ : Ctx} {te : TE} {c : Bool} (h : EvX Γ te (rB c)) : EvX Γ (tCB (fun xs H Q => (∃ i, xs = [.int i] ∧ Q (.int i) H) ∨ ∃ k, xs = [.bl k] ∧ Q (.int (if k then 1 else 0)) H) (tCons te tNil)) (rI (if c then 1 else 0)) := fun σ G en => by
  have z := EvD.ev (h σ G en)
  refine Ev.d ?_
  intro H e Q q
  exact z H e _ fun H2 e2 => .inr ⟨c, rfl, q H2 e2⟩
section
variable {W : WX} {Γ : Ctx} {M : List Re} {te : TE} {i : Nat} {p : Addr}
theorem ws_setIE {κ : Kn} {tn : TE} (k : Nat) (hi : Γ[i]? = some (some (rV (.ref p)))) (h : EW W Γ M te (fun r M1 => EW W Γ M1 tn (fun rj M' => ∃ n rs, rj = nI n ∧ M'[k]? = some (lstR p rs) ∧ n < rs.length ∧ κ.nx Γ (M'.set k (lstR p (rs.set n r)))) (κ.ex Γ)) (κ.ex Γ)) : WP W Γ M (tAsg te (gSub (tVar i) tn rSetL)) κ := fun B G H σ D o en d =>
  h B G H σ o en _ (fun v G' H' r M1 z1 o' e' hv => by
    obtain ⟨u, hu1, hu2⟩ := en.get hi
    obtain rfl : u = V.ref p := hu2
    refine ⟨.ref p, hu1, z1 B G' H' σ o' (en.mono e') _ (fun w G2 H2 rj M' z o2 e2 hw => ?_) (fun cls fs dd G2 H2 M2 k o2 e2 xd => d.ex σ G2 H2 Γ M2 cls dd fs o2 (en.mono (e'.trans e2)) xd k)⟩
    obtain ⟨n, rs, rfl, hk, hl, hq⟩ := z
    obtain rfl : w = V.int (n : Int) := hw
    have hm := List.mem_of_getElem? hk
    obtain ⟨ws, h1, h2⟩ := o2.m _ hm
    have gp : G2 p = none := o2.z p (mem_feet hm (List.mem_singleton.mpr rfl))
    have hlt : n < ws.length := by rw [h2.len]; exact hl
    refine ⟨p, ws, (n : Int), n, rfl, rfl, h1, ?_, d.nx σ G2 _ Γ _ (o2.chg (R' := lstR p (rs.set n r)) hk rfl rfl (Ex.refl _) (fun a u z nn => ?_) (Ex.mut o2.i gp) (fun _ _ _ y => y) ⟨_, upd_same, h2.set (r.mono e2 hv) n⟩) ((en.mono e').mono e2) hq⟩
    · unfold ixN
      rw [if_pos (by omega)]
      simp [hlt]
    · rw [upd_ne fun q => nn (List.mem_singleton.mpr q)]
      exact z) (fun cls fs dd G' H' M' k o' e' xd => d.ex σ G' H' Γ M' cls dd fs o' (en.mono e') xd k)
end
end Mu

namespace Mu
open PySem PySem.Spec PyProof.Rows L2 He Evl
/-! ### dicts whose keys are tuples of whole numbers and texts -/
section
variable {α : Type}
def valT (kvs : List (List Key × α)) (k : List Key) : Option α := (kvs.find? fun kv => decide (kv.1 = k)).map (·.2)
def putT (kvs : List (List Key × α)) (k : List Key) (v : α) : List (List Key × α) := if (kvs.any fun kv => decide (kv.1 = k)) = true then kvs.map (fun kv => if kv.1 = k then (kv.1, v) else kv) else kvs ++ [(k, v)]
theorem valT_any (kvs : List (List Key × α)) (k : List Key) : (valT kvs k).isSome = kvs.any fun kv => decide (kv.1 = k) := by
  unfold valT
  induction kvs with
  | nil => rfl
  | cons a t ih =>
    rw [List.find?_cons, List.any_cons]
    by_cases c : a.1 = k
    · rw [decide_eq_true c]; rfl
    · rw [decide_eq_false c, Bool.false_or]; exact ih
theorem putT_len (kvs : List (List Key × α)) (k : List Key) (v : α) : (putT kvs k v).length ≤ kvs.length + 1 := by
  unfold putT
  split
  · rw [List.length_map]; omega
  · rw [List.length_append]; exact Nat.le_refl _
end
abbrev DtR (G : Hp) : List (List Key × V) → List (List Key × Rp) → Prop := Paired fun a b => a.1 = b.1 ∧ b.2.p a.2 G
section
variable {G G' : Hp} {ws : List (List Key × V)} {kvs : List (List Key × Rp)} {k : List Key} {v : V} {r : Rp}
theorem DtR.mono (e : Ex G G') (h : DtR G ws kvs) : DtR G' ws kvs := Paired.mono (fun _ b z => ⟨z.1, b.2.mono e z.2⟩) h
theorem DtR.len (h : DtR G ws kvs) : ws.length = kvs.length := Paired.length h
theorem DtR.keys (h : DtR G ws kvs) : ws.map (·.1) = kvs.map (·.1) := by
  induction h with
  | nil => rfl
  | cons a t ih => rw [List.map_cons, List.map_cons, a.1, ih]
theorem DtR.val (h : DtR G ws kvs) (k : List Key) : match valT kvs k with
    | some r => ∃ v, valV ws k = some v ∧ r.p v G
    | none => valV ws k = none := by
  induction h with
  | nil => rfl
  | @cons a b as bs ha t ih =>
    unfold valT valV at ih ⊢
    rw [List.find?_cons, List.find?_cons, ha.1]
    by_cases c : b.1 = k
    · rw [decide_eq_true c]
      exact ⟨a.2, rfl, ha.2⟩
    · rw [decide_eq_false c]
      exact ih
theorem DtR.any (h : DtR G ws kvs) (k : List Key) : (ws.any fun kv => decide (kv.1 = k)) = kvs.any fun kv => decide (kv.1 = k) := by
  induction h with
  | nil => rfl
  | cons a t ih => rw [List.any_cons, List.any_cons, a.1, ih]
theorem DtR.repl (h : DtR G ws kvs) (hr : r.p v G) : DtR G (ws.map fun kv => if kv.1 = k then (kv.1, v) else kv) (kvs.map fun kv => if kv.1 = k then (kv.1, r) else kv) := by
  induction h with
  | nil => exact .nil
  | @cons a b as bs ha t ih =>
    refine .cons ?_ ih
    dsimp only
    rw [ha.1]
    by_cases c : b.1 = k
    · rw [if_pos c, if_pos c]; exact ⟨rfl, hr⟩
    · rw [if_neg c, if_neg c]; exact ha
theorem DtR.snoc (h : DtR G ws kvs) (hr : r.p v G) : DtR G (ws ++ [(k, v)]) (kvs ++ [(k, r)]) := by
  induction h with
  | nil => exact .cons ⟨rfl, hr⟩ .nil
  | cons a t ih => exact .cons a ih
theorem DtR.put (h : DtR G ws kvs) (hr : r.p v G) : DtR G (putK ws k v) (putT kvs k r) := by
  unfold putK putT
  rw [h.any k]
  split
  · exact h.repl hr
  · exact h.snoc hr
theorem DtR.isSome (h : DtR G ws kvs) (k : List Key) : (valV ws k).isSome = (valT kvs k).isSome := by
  have hh := h.val k
  cases e : valT kvs k with
  | none => rw [e] at hh; rw [hh]; rfl
  | some r => rw [e] at hh; obtain ⟨v, h4, _⟩ := hh; rw [h4]; rfl
end
/-- a tuple that may be a key: an object of the heap that holds just these -/
def rK (k : List Key) : Rp := ⟨fun v G => ∃ a, v = .ref a ∧ G a = some (.tup (k.map kV)), fun e ⟨a, h1, h2⟩ => ⟨a, h1, e _ _ h2⟩⟩
def rpK (k : Key) : Rp := rV (kV k)
theorem ra_keys {G : Hp} : ∀ (k : List Key), RA G (k.map kV) (k.map rpK)
  | [] => .nil
  | _ :: k => .cons rfl (ra_keys k)
theorem ra_keys_eq {G : Hp} : ∀ {k : List Key} {ws : List V}, RA G ws (k.map rpK) → ws = k.map kV
  | [], _, .nil => rfl
  | _ :: k, _, .cons h t => by
    obtain rfl := h
    rw [ra_keys_eq t]; rfl
/-- a key is a tuple of its parts -/
theorem rK_t {K : PySem.W.Frag} {k : List Key} {v : V} {G : Hp} (h : (rK k).p v G) : (rT K (k.map rpK)).p v G := by
  obtain ⟨a, rfl, h2⟩ := h
  exact ⟨a, _, rfl, st_of h2, ra_keys k⟩
theorem x_rK {K : PySem.W.Frag} {Γ : Ctx} {te : TE} {k : List Key} (h : EvX Γ te (rK k)) : EvX Γ te (rT K (k.map rpK)) := fun σ G en H e Q q => h σ G en H e Q fun v G1 H1 g1 hv => q v G1 H1 g1 (rK_t hv)
/-- a tuple of whole numbers and texts, written out -/
theorem e_tupK {W : WX} {Γ : Ctx} {M : List Re} {κ : KV} {ε : KX} {ta : TA} (h : EA W Γ M ta (fun rs M1 => ∃ k : List Key, rs = k.map rpK ∧ k.length ≤ 100000 ∧ κ (rK k) M1) ε) : EW W Γ M (tTup ta) κ ε := fun B G H σ o en Q q x =>
  h B G H σ o en _ (fun vs G1 H1 rs M1 h1 o1 e1 ra => by
    obtain ⟨k, rfl, hl, kk⟩ := h1
    have ev := ra_keys_eq ra
    subst ev
    refine ⟨sz_of (by rw [List.length_map]; exact hl), fun p hp => ?_⟩
    have g3 := Gr.new (o := .tup (k.map kV)) o1.i hp
    exact q (.ref p) _ _ (rK k) M1 kk (o1.gr g3) (e1.trans g3.g) ⟨p, rfl, upd_same⟩) x
/-- a dict that stays; z: it is locked, so that it may be walked -/
def rDT (z : Bool) (kvs : List (List Key × Rp)) : Rp := ⟨fun v G => ∃ d ws, v = .ref d ∧ ((∃ o, G d = some (.frz o (.dT ws))) ∨ (z = false ∧ G d = some (.dT ws))) ∧ DtR G ws kvs, fun e ⟨d, ws, h1, h2, h3⟩ => ⟨d, ws, h1, h2.imp (fun ⟨o, q⟩ => ⟨o, e _ _ q⟩) (fun q => ⟨q.1, e _ _ q.2⟩), h3.mono e⟩⟩
/-- of our own -/
def ditR (p : Addr) (kvs : List (List Key × Rp)) : Re where
  own := true
  ft := [p]
  p := fun G H => ∃ ws, H p = some (.dT ws) ∧ DtR G ws kvs
  mono := fun e ⟨ws, h1, h2⟩ => ⟨ws, h1, h2.mono e⟩
  loc := fun k ⟨ws, h1, h2⟩ => ⟨ws, k p (List.mem_singleton.mpr rfl) _ h1, h2⟩
  at_ := fun ⟨ws, h1, _⟩ a ha => by rw [List.mem_singleton.mp ha]; exact ⟨_, h1⟩
theorem Ok.chgT {B : Ba} {G H : Hp} {M : List Re} {k : Nat} {p : Addr} {kvs kvs' : List (List Key × Rp)} {ws : List (List Key × V)} (o : Ok B G H M) (hk : M[k]? = some (ditR p kvs)) (h : DtR G ws kvs') : Ok B G (upd H p (.dT ws)) (M.set k (ditR p kvs')) := by
  have gp : G p = none := o.z p (mem_feet (List.mem_of_getElem? hk) (List.mem_singleton.mpr rfl))
  exact o.chg (R' := ditR p kvs') hk rfl rfl (Ex.refl _) (fun a u z n => by rw [upd_ne fun q => n (List.mem_singleton.mpr q)]; exact z) (Ex.mut o.i gp) (fun _ _ _ y => y) ⟨ws, upd_same, h⟩
section
variable {W : WX} {Γ : Ctx} {M : List Re} {te ta tb tv td : TE} {K : PySem.W.Frag} {n i j idx : Nat} {r : Rp} {κ : KV} {ε : KX} {kvs : List (List Key × Rp)} {z : Bool} {k : List Key} {p : Addr}
theorem rDT_get {v : V} {G H : Hp} (h : (rDT z kvs).p v G) (e : Ex G H) : ∃ d ws, v = .ref d ∧ Rd H d (.dT ws) ∧ DtR G ws kvs := by
  obtain ⟨d, ws, rfl, h2, h3⟩ := h
  refine ⟨d, ws, rfl, ?_, h3⟩
  rcases h2 with ⟨o, q⟩ | ⟨_, q⟩
  · exact .inr ⟨o, e _ _ q⟩
  · exact .inl (e _ _ q)
theorem om_dgetT (hv : valT kvs k = some r) (kk : κ r M) : OM rDGet (rDT z kvs) (rK k) M κ := fun B G H x y o hx hy Q q => by
  obtain ⟨d, ws, rfl, h2, h3⟩ := rDT_get hx o.i
  obtain ⟨b, rfl, hb⟩ := hy
  have hh := h3.val k
  rw [hv] at hh
  obtain ⟨v, h4, h5⟩ := hh
  exact ⟨d, v, rfl, .inr ⟨ws, k, b, h2, rfl, o.i _ _ hb, h4.symm⟩, q v G H r M kk o (Ex.refl _) h5⟩
theorem om_dinT (kk : κ (rB (valT kvs k).isSome) M) : OM rDIn (rK k) (rDT z kvs) M κ := fun B G H y x o hy hx Q q => by
  obtain ⟨d, ws, rfl, h2, h3⟩ := rDT_get hx o.i
  obtain ⟨b, rfl, hb⟩ := hy
  exact ⟨d, _, rfl, .inr ⟨ws, k, b, h2, rfl, o.i _ _ hb, rfl⟩, q _ G H _ M kk o (Ex.refl _) (by rw [h3.isSome k]; rfl)⟩
theorem om_dniT (kk : κ (rB (!(valT kvs k).isSome)) M) : OM rDNotIn (rK k) (rDT z kvs) M κ := fun B G H y x o hy hx Q q => by
  obtain ⟨d, ws, rfl, h2, h3⟩ := rDT_get hx o.i
  obtain ⟨b, rfl, hb⟩ := hy
  exact ⟨d, _, rfl, .inr ⟨ws, k, b, h2, rfl, o.i _ _ hb, rfl⟩, q _ G H _ M kk o (Ex.refl _) (by rw [h3.isSome k]; rfl)⟩
/-! our own -/
theorem e_dnewT (kk : ∀ p, κ (rV (.ref p)) (M ++ [ditR p []])) : EW W Γ M tDNewT κ ε := fun B G H σ o en Q q x p hp => by
  have gp := fresh_back o.i hp
  have g3 := Gr.out (o := .dT []) o.i hp
  exact q (.ref p) _ _ (rV (.ref p)) _ (kk p) (o.add (R := ditR p []) g3 (show [p].Nodup by simp) (fun a ha => by rw [List.mem_singleton.mp ha]; exact ⟨hp, gp⟩) ⟨[], upd_same, .nil⟩) (Ex.refl _) rfl
theorem om_dgetTO (idx : Nat) (hk : M[idx]? = some (ditR p kvs)) (hv : valT kvs k = some r) (kk : κ r M) : OM rDGet (rV (.ref p)) (rK k) M κ := fun B G H x y o hx hy Q q => by
  obtain rfl : x = V.ref p := hx
  obtain ⟨b, rfl, hb⟩ := hy
  obtain ⟨ws, h2, h3⟩ := o.m _ (List.mem_of_getElem? hk)
  have hh := h3.val k
  rw [hv] at hh
  obtain ⟨v, h4, h5⟩ := hh
  exact ⟨p, v, rfl, .inr ⟨ws, k, b, .inl h2, rfl, o.i _ _ hb, h4.symm⟩, q v G H r M kk o (Ex.refl _) h5⟩
theorem om_dinTO (idx : Nat) (hk : M[idx]? = some (ditR p kvs)) (kk : κ (rB (valT kvs k).isSome) M) : OM rDIn (rK k) (rV (.ref p)) M κ := fun B G H y x o hy hx Q q => by
  obtain rfl : x = V.ref p := hx
  obtain ⟨b, rfl, hb⟩ := hy
  obtain ⟨ws, h2, h3⟩ := o.m _ (List.mem_of_getElem? hk)
  exact ⟨p, _, rfl, .inr ⟨ws, k, b, .inl h2, rfl, o.i _ _ hb, rfl⟩, q _ G H _ M kk o (Ex.refl _) (by rw [h3.isSome k]; rfl)⟩
theorem om_dniTO (idx : Nat) (hk : M[idx]? = some (ditR p kvs)) (kk : κ (rB (!(valT kvs k).isSome)) M) : OM rDNotIn (rK k) (rV (.ref p)) M κ := fun B G H y x o hy hx Q q => by
  obtain rfl : x = V.ref p := hx
  obtain ⟨b, rfl, hb⟩ := hy
  obtain ⟨ws, h2, h3⟩ := o.m _ (List.mem_of_getElem? hk)
  exact ⟨p, _, rfl, .inr ⟨ws, k, b, .inl h2, rfl, o.i _ _ hb, rfl⟩, q _ G H _ M kk o (Ex.refl _) (by rw [h3.isSome k]; rfl)⟩
theorem am_lenDTO (idx : Nat) (hk : M[idx]? = some (ditR p kvs)) (kk : κ (nI kvs.length) M) : AM L2.rLenT [rV (.ref p)] M κ := fun B G H vs o ra Q q => by
  obtain ⟨x, rfl, hx⟩ := ra1 ra
  obtain rfl : x = V.ref p := hx
  obtain ⟨ws, h2, h3⟩ := o.m _ (List.mem_of_getElem? hk)
  exact ⟨p, ws, rfl, h2, q _ G H _ M kk o (Ex.refl _) (by rw [h3.len]; rfl)⟩
/-- d[k] = e -/
theorem ws_dputT {κ : Kn} (idx : Nat) (h : EW W Γ M tv (fun r M1 => EW W Γ M1 td (fun r1 M2 => ∃ p, r1 = rV (.ref p) ∧ EW W Γ M2 ta (fun r2 M3 => ∃ k kvs, r2 = rK k ∧ M3[idx]? = some (ditR p kvs) ∧ kvs.length < 50000 ∧ κ.nx Γ (M3.set idx (ditR p (putT kvs k r)))) (κ.ex Γ)) (κ.ex Γ)) (κ.ex Γ)) : WP W Γ M (sDPut td ta tv) κ := fun B G H σ D o en d => by
  have dx : ∀ {G1 : Hp}, Ex G G1 → GoX B G1 (κ.ex Γ) W σ := fun e cls fs dd G' H' M' k o' e' xd => d.ex σ G' H' Γ M' cls dd fs o' (en.mono (e.trans e')) xd k
  refine h B G H σ o en _ (fun v G1 H1 r M1 h1 o1 e1 hv => h1 B G1 H1 σ o1 (en.mono e1) _ (fun x G2 H2 r1 M2 h2 o2 e2 hx => ?_) (dx e1)) (dx (Ex.refl _))
  obtain ⟨p, rfl, h3⟩ := h2
  obtain rfl : x = V.ref p := hx
  refine h3 B G2 H2 σ o2 (en.mono (e1.trans e2)) _ (fun y G3 H3 r2 M3 h4 o3 e3 hy => ?_) (dx (e1.trans e2))
  obtain ⟨k, kvs, rfl, hk, hl, kk⟩ := h4
  obtain ⟨b, rfl, hb⟩ := hy
  obtain ⟨ws, q2, q3⟩ := o3.m _ (List.mem_of_getElem? hk)
  refine ⟨p, _, rfl, .inr ⟨ws, k, b, q2, rfl, o3.i _ _ hb, sz_lt (by rw [q3.len]; omega), rfl⟩, d.nx σ G3 _ Γ _ (o3.chgT hk (q3.put (r.mono (e2.trans e3) hv))) (en.mono (e1.trans (e2.trans e3))) kk⟩
end
/-! ### list(d): its keys -/
def rListT : List V → Hp → VK → Prop := fun xs H Q => ∃ d kvs, xs = [V.ref d] ∧ Rd H d (.dT kvs) ∧ ∀ p bs, H p = none → IsKeys H kvs bs → Q (.ref p) (upd H p (.lst (bs.map V.ref)))
theorem keys_ra {G H : Hp} {kvs : List (List Key × Rp)} : ∀ {ws : List (List Key × V)} {bs : List Addr}, DtR G ws kvs → IsKeys H ws bs → (∀ a o, H a = some o → (∃ k : List Key, o = .tup (k.map kV)) → G a = some o) → RA G (bs.map V.ref) (kvs.map fun kv => rK kv.1) := by
  induction kvs with
  | nil =>
    intro ws bs h1 h2 _
    cases h1
    cases h2
    exact .nil
  | cons a t ih =>
    intro ws bs h1 h2 hh
    cases h1 with
    | cons e1 r1 =>
      cases h2 with
      | cons e2 r2 => exact .cons ⟨_, rfl, hh _ _ (by rw [← e1.1]; exact e2) ⟨_, rfl⟩⟩ (ih r1 r2 hh)
end Mu

namespace Mu
open PySem PySem.Spec PyProof.Rows L2 He Evl
/-! ### str(data): a def that knows that nothing is being written around it -/
def rStrD (K : PySem.W.Frag) : List V → Hp → VK → Prop := fun xs H Q => ∃ (a : Addr) (d : PyData), xs = [.ref a] ∧ Dp K H (.ref a) d ∧ d.showable = true ∧ d.hasDict = false ∧ d.depth ≤ 60 ∧ d.shown.length ≤ sizeLine ∧ Q (.str d.shown) H
theorem call_strD {X : Cx} {K : PySem.W.Frag} (hg : X.A.guards = some []) (hu : X.A.units + 64 < cLine) (hK : X.K = K := by rfl) : CallR X (.type "str") (rStrD K) := by
  subst hK
  intro pins s σ H xs us Q I r h
  obtain ⟨a, d, rfl, hd, hs, hn, h6, hz, q⟩ := h
  obtain ⟨u, rfl, ru⟩ := vals1 r
  obtain rfl : u = Value.ref a := ru
  obtain ⟨as, r1⟩ := Dp.reads I d (.ref a) (.ref a) hd rfl
  exact str_of_reads r1 hs (PyData.noDict_hsm hn) hg (by omega) (fun _ _ e => e) (fun h' u tk hk => ⟨.str d.shown, H, I.kept hk, ⟨u, rfl⟩, q⟩) hz
/-- as FnOk, where nothing is being written around the call -/
structure FnG (P : Program) (w : World) (K : PySem.W.Frag) (mg : Str → Option Value) (base : Heap) (CX : CXT) (k : Nat) (f : Addr) (fd : FuncData) (ps : List Str) (sp : Sp) : Prop where
  len : ∀ vs H Q E, sp vs H Q E → vs.length = ps.length
  run : ∀ (A : Around) (outer : List Env) (s : Shared) (H : Hp) (args : Args) (us : List Value) (vs : List V) (Q : VK) (E : XK), A.guards = some [] → Room k A → Env0 P w K mg base A outer s H → BindsTo s fd args (ps.zip us) → Vals vs us → sp vs H Q E →
    codeAny (model P w) A (.call (.ref f) args) (CR CX outer P w H s Q E) s
section
variable {CX : CXT} {P : Program} {w : World} {K : PySem.W.Frag} {mg : Str → Option Value} {base : Heap} {k : Nat} {f : Addr}
theorem okG {qual x : Str} {params : Arguments} {body : List Stmt} {scope : Scope} {dvs : List V} {kws : List (Str × V)} {fd : FuncData} {N ps : List Str} {sp : Sp} (F : FunD K x qual params body scope dvs kws f fd) (S : FnScope N ps scope) (len : ∀ vs H Q E, sp vs H Q E → vs.length = ps.length)
    (hbody : ∀ (cdv : Value) (A : Around) (outer : List Env) (s : Shared) (H : Hp) (vs : List V) (Q : VK) (E : XK), A.guards = some [] → Room k (A.deeper (envOfC qual scope s.heap.objs.size f cdv)) → sp vs H Q E →
      ∃ t, PSs (cxOf CX P w K mg base N qual scope f cdv A outer s H E) body t ∧ t { nx := fun _ H' => Q .non H', rt := Q } (start N vs) H) : FnG P w K mg base CX (k + 1) f fd ps sp := by
  obtain ⟨oc, od, dV, kV, doc, pm, an, cdv, ct, osl, rfl, lk, hcd, _, _⟩ := F.ex
  refine ⟨len, fun A outer s H args us vs Q E hgd hr e0 hb r hsp => ?_⟩
  have hl := len _ _ _ _ hsp
  have KX : K.In s.heap := e0.mod.kin.keeps fun b o e => (e0.bs b o e).1
  have lim : s.heap.NoLimit := e0.mod.nolimit.keeps fun b o e => (e0.bs b o e).1
  have hkind : ∀ y ∈ ps.zip us, scope.names.lookup y.1 = some .local ∨ (scope.names.lookup y.1 = some .cell ∧ ((cellsFrom (s.heap.objs.size + 1) scope.names []).lookup y.1).isSome = true) := fun y hy => (S.par y.1 (List.of_mem_zip hy).1).imp id fun q => ⟨q, PySem.W.cellsFrom_some _ _ _ (.inl q)⟩
  refine codeAny_call_function hr.depth (KX _ _ lk) rfl S.co S.gen rfl (PySem.W.codeRec_of KX hcd) (hb _ _ _ _ ?_)
  refine wpAny_newFunctionEnv_cells S.kind hkind fun env he s1 x => ?_
  subst he
  obtain ⟨t, ht, hq⟩ := hbody cdv A outer s H vs Q E hgd (hr.deeper _) hsp
  have I : Inv (cxOf CX P w K mg base N qual scope f cdv A outer s H E) [] (start N vs) H s1 := inv_start S hr.hd e0 hl r x
  refine ⟨lim.keeps x.toInCall.keep, codeAny_func (wpAny_mono (ht.run [] s1 (start N vs) H _ I hq) (fun fl s' hs => ?_) fun e s' hs => hs)⟩
  have fin : ∀ {σ' : L2.St} {H' : Hp} {v : V} {u : Value}, Inv (cxOf CX P w K mg base N qual scope f cdv A outer s H E) [] σ' H' s' → RelV v u → Q v H' → CE outer P w H s Q u s' :=
    fun {σ' H' v u} J rv q => ⟨v, H', J.os, J.bare, J.base, J.hok, rv, q⟩
  cases fl with
  | ret u => exact let ⟨v, σ', H', J, rv, q⟩ := hs; fin J rv q
  | next => exact let ⟨σ', H', J, q⟩ := hs; fin (v := V.non) (u := Value.none) J rfl q
  | brk => exact let ⟨_, _, _, q⟩ := hs; q.elim
  | cont => exact let ⟨_, _, _, q⟩ := hs; q.elim
end
section
variable {X : Cx} {CX : CXT} {k : Nat} {f : Addr} {fd : FuncData} {ps : List Str} {sp : Sp} {dvs : List V} {ds : List Value} {E : XK} {x : Str} {p pos : Pos} {e : Expr} {es : List Expr} {t : TA}
theorem pe_callG (F : FnG X.prog X.w X.K X.mg X.base CX k f fd ps sp) (hgd : X.A.guards = some []) (hr : Room k X.A) (hg : Gl X x) (hm : X.mg x = some (.ref f)) (hk : PySem.W.keepIn X.K (.ref f) = true) (hb : Binds X.K fd ps ds) (hd : Vals dvs ds) (hx : Passes CX X E)
    (ha : PA X (e :: es) t) (hdb : (x == ("__debug__" : Str)) = false := by decide) (he : starEach (e :: es) X.env = (false, eval e X.env) :: starEach es X.env := by rfl) (hpl : (backTo pos (starEach es X.env)).any (·.1) = false := by rfl) :
    PE X (.Call (.Name x p) (e :: es) [] pos) (tCall sp dvs E t) := ⟨fun pins s σ H Q I h => by
  refine wpAny_Call_Name_kw (ld_glob I hg hm ?_ hdb)
  refine PySem.W.callWith_K (h₀ := X.base) I.ok.mod.kin hk (thn (ha.run pos pins s σ H _ I h) fun us s1 ⟨vs, H1, I1, r, q⟩ => ⟨I1.kIn, ?_⟩) he hpl
  have r2 : Vals (vs ++ dvs) (us ++ ds) := r.append hd
  refine wpAny_call (codeAny_mono (F.run X.A X.stack s1 H1 ⟨us, []⟩ (us ++ ds) (vs ++ dvs) Q E hgd hr I1.env0 (hb s1 us I1.kIn (by rw [← r2.length]; exact F.len _ _ _ _ q)) r2 q) fun r s' hq => ?_)
  match r, hq with
  | .error e, hq => exact hx pins σ H1 s1 e s' I1 hq
  | .ok (.ret u), hq => exact I1.after hq
  | .ok .next, hq => exact False.elim hq
  | .ok .brk, hq => exact False.elim hq
  | .ok .cont, hq => exact False.elim hq⟩
end
/-! ### the end of a law whose def is such a one -/
section
variable {P : Program} {w : World} {K : PySem.W.Frag} {mg mb : Str → Option Value} {CX : CXT} {k : Nat} {fa a : Addr} {fd : FuncData} {x : Str} {sp : Sp} {s₁ : Shared} {vs : List Value} {ns : List Int}
theorem law_core (KX : K.In s₁.heap) (hns : s₁.heap.Ns mainGlobals mg) (hb : s₁.heap.Ns builtinsNs mb) (hbb : ∀ x : Str, x ≠ "__name__" → mb x = bootBuiltins x) (hlim : s₁.heap.NoLimit) (hg : s₁.gens = #[])
    (ha : s₁.heap.get? a = some { cls := .type "list", data := .seq vs.toArray }) (hr : Room k callerA)
    (F : ∀ base : Heap, K.In base → base.Ns mainGlobals mg → FnG P w K mg base CX k fa fd [x] sp) (hbind : ∀ (s : Shared) (u : Value), BindsTo s fd ⟨[u], []⟩ [(x, u)])
    (hCX : ∀ H e s', CX [] H s₁ (fun _ _ _ => False) e s' → False)
    {H : Hp} (hO : Only H) (hsp : sp [.ref a] H (fun v _ => v = .bl true) fun _ _ _ => False) (hok : HOk P w H s₁.heap) (hA : ∀ b, H b ≠ none → b = a) (hK : H a ≠ none → K.lookup a = none) :
    codeAny (model P w) callerA (.call (.ref fa) ⟨[.ref a], []⟩) (fun r s' => r = .ok (.ret (.bool true)) ∧ OldK s₁.heap s'.heap ∧ s'.os = s₁.os ∧ AllBare s'.gens) s₁ := by
  have un : ∀ {b : Addr} {o : Obj}, s₁.heap.get? b = some o → (b = a → H a = none) → (hidT s₁.heap H).get? b = some o := fun {b o} e h => hidT_get e (by
    cases q : H b with
    | none => rfl
    | some u =>
      have z := hA b (by rw [q]; simp)
      rw [z] at q
      rw [h z] at q; cases q)
  have nsK : ∀ {b : Addr} {m : Str → Option Value}, s₁.heap.Ns b m → (hidT s₁.heap H).Ns b m := fun {b m} ⟨o, es, ep, e, d, r⟩ => ⟨o, es, ep, un e (fun z => by
    subst z
    rw [ha] at e
    cases e
    cases d), d, r⟩
  have hKb : K.In (hidT s₁.heap H) := fun b o e => un (KX b o e) fun z => by
    subst z
    cases q : H b with
    | none => rfl
    | some u => rw [hK (by rw [q]; simp)] at e; cases e
  have e0 : Env0 P w K mg (hidT s₁.heap H) callerA [] s₁ H := { frames := rfl, mod := ⟨hKb, nsK hns, ⟨mb, nsK hb, hbb⟩, hlim.elim fun mc q => ⟨mc, nsK q.1, q.2⟩⟩, bs := fun b o e => of_hidT e, bsz := Nat.le_of_eq (hidT_size _ _), funs := trivial, frf := (fun b z => nomatch z), hok := hok, bare := .of_eq hg }
  refine codeAny_mono ((F _ hKb (nsK hns)).run callerA [] s₁ H ⟨[.ref a], []⟩ [.ref a] [.ref a] _ _ rfl hr e0 (hbind s₁ (.ref a)) (.cons rfl .nil) hsp) fun r s' h => ?_
  match r, h with
  | .error e, h => exact (hCX H e s' h).elim
  | .ok .next, h => exact False.elim h
  | .ok .brk, h => exact False.elim h
  | .ok .cont, h => exact False.elim h
  | .ok (.ret u), h =>
    obtain ⟨v, H', os, bare, uu, hok', r', q⟩ := h
    obtain rfl : v = V.bl true := q
    obtain rfl : u = Value.bool true := r'
    refine ⟨rfl, OldK.of_keep fun b o e => ?_, os, bare⟩
    rcases hO b with z | ⟨ob, xs, z⟩
    · exact uu.keep b o e z (fun z => nomatch z) (by simp)
    · have e1 := (hok b _ z).1
      have e2 := (hok' b _ (uu.frzs b ob _ z)).1
      rw [e] at e1
      cases e1
      exact e2
theorem law_callG (KX : K.In s₁.heap) (hns : s₁.heap.Ns mainGlobals mg) (hb : s₁.heap.Ns builtinsNs mb) (hbb : ∀ x : Str, x ≠ "__name__" → mb x = bootBuiltins x) (hlim : s₁.heap.NoLimit) (hg : s₁.gens = #[])
    (ha : s₁.heap.get? a = some { cls := .type "list", data := .seq vs.toArray }) (hi : IntsAre vs ns) (hl : ns.length ≤ sizeLine) (hr : Room k callerA)
    (F : ∀ base : Heap, K.In base → base.Ns mainGlobals mg → FnG P w K mg base CX k fa fd [x] sp) (hbind : ∀ (s : Shared) (u : Value), BindsTo s fd ⟨[u], []⟩ [(x, u)])
    (hsp : ∀ H : Hp, Only H → SqL K H a (ns.map V.int) → sp [.ref a] H (fun v _ => v = .bl true) fun _ _ _ => False)
    (hCX : ∀ H e s', CX [] H s₁ (fun _ _ _ => False) e s' → False) :
    codeAny (model P w) callerA (.call (.ref fa) ⟨[.ref a], []⟩) (fun r s' => r = .ok (.ret (.bool true)) ∧ OldK s₁.heap s'.heap ∧ s'.os = s₁.os ∧ AllBare s'.gens) s₁ := by
  have rv := vals_ints hi
  have lv := hi.length
  cases hk : K.lookup a with
  | some o =>
    have e := KX a o hk
    rw [ha] at e
    cases e
    have hO : Only (fun _ => none) := fun _ => .inl rfl
    exact law_core KX hns hb hbb hlim hg ha hr F hbind hCX hO (hsp _ hO (.inr ⟨_, vs.toArray, _, hk, rfl, rfl, rfl, by rw [List.size_toArray, lv]; exact hl, by simpa using rv⟩)) (fun b u z => nomatch z) (fun b z => absurd rfl z) fun z => absurd rfl z
  | none =>
    let fz : HO := .frz { cls := .type "list", data := .seq vs.toArray } (.lst (ns.map V.int))
    have hO : Only (fun b => if b = a then some fz else none) := fun b => by
      by_cases q : b = a
      · exact .inr ⟨_, _, if_pos q⟩
      · exact .inl (if_neg q)
    refine law_core KX hns hb hbb hlim hg ha hr F hbind hCX hO (hsp _ hO (.inl (.inr ⟨{ cls := .type "list", data := .seq vs.toArray }, if_pos rfl⟩))) (fun b u z => ?_) (fun b z => ?_) fun _ => hk
    · by_cases q : b = a
      · have z2 : some fz = some u := (if_pos q).symm.trans z
        cases z2
        subst q
        exact ⟨ha, by rw [List.length_map]; exact hl, vs, _, rv, ha⟩
      · cases (if_neg q).symm.trans z
    · by_cases q : b = a
      · exact q
      · exact absurd (if_neg q) z
end
theorem walk_ofG {l : PySem.W.OpenLaw} {n k : Nat} {q : Program} {loose : List Str} {XP : (Str → Option Value) → Heap → Prop} {YP : World → Heap → Prop} {d : DefRec} {CX : CXT} {x : Str}
    (hn : l.most = some n) (hn2 : n ≤ sizeLine) (hdf : d.params.defaults = []) (hr : Room k callerA)
    (F : ∀ (w : World) (mg : Str → Option Value) (fa : Addr) (h : Heap), YP w h → h.Ns mainGlobals mg → mg d.name = some (.ref fa) →
      ∃ (K : PySem.W.Frag) (fd : FuncData) (sp : Sp), K.In h ∧ (∀ (s : Shared) (u : Value), BindsTo s fd ⟨[u], []⟩ [(x, u)]) ∧
        (∀ (H : Hp) (a : Addr) (ns : List Int), ns.length ≤ n → Only H → SqL K H a (ns.map V.int) → sp [.ref a] H (fun v _ => v = .bl true) fun _ _ _ => False) ∧
        ∀ base : Heap, K.In base → base.Ns mainGlobals mg → FnG l.prog w K mg base CX k fa fd [x] sp)
    (hCX : ∀ (H : Hp) (s : Shared) (e : Value) (s' : Shared), CX [] H s (fun _ _ _ => False) e s' → False) :
    PySem.W.WalkO q loose XP YP l.row.toRowW d [] (fun f vs => PySem.call f vs) := by
  refine Att.attach_call hn hdf fun w s₀ s₁ mg mb fa o pm cd doc a vs ns G Y ho hd hcd hmg hobj hints hlen hg => ?_
  obtain ⟨K, fd, sp, KX, hb, hsp, hF⟩ := F w mg fa _ Y G.T.g hmg
  exact law_callG KX G.T.g G.T.b G.T.builtins G.T.nolimit hg hobj hints (Nat.le_trans hlen hn2) hr hF hb (fun H hO hS => hsp H a ns hlen hO hS) fun H e s' => hCX H s₁ e s'
/-! ### the text of a list of lists of small numbers -/
def sepN (k : Nat) : List Nat := if 0 < k then [44, 32] else []
def flatN : Nat → List (List Nat) → List Nat
  | _, [] => []
  | k, t :: ts => sepN k ++ (t ++ flatN (k + 1) ts)
def encL (ts : List (List Nat)) : List Nat := 91 :: (flatN 0 ts ++ [93])
def encN (n : Nat) : List Nat := [48 + n]
def enc1 (l : List Nat) : List Nat := encL (l.map encN)
def enc2 (ll : List (List Nat)) : List Nat := encL (ll.map enc1)
theorem cpsA (a b : Str) : (a ++ b).cps = a.cps ++ b.cps := rfl
theorem cps_from : ∀ (ts : List Str) (k : Nat) (acc : Str), (textFrom k acc ts).cps.toList = acc.cps.toList ++ flatN k (ts.map fun t => t.cps.toList)
  | [], k, acc => by
    show acc.cps.toList = acc.cps.toList ++ []
    rw [List.append_nil]
  | t :: ts, k, acc => by
    have e : textFrom k acc (t :: ts) = textFrom (k + 1) (acc ++ ((if k > 0 then ", " else "" : String) : Str) ++ t) ts := rfl
    rw [e, cps_from ts]
    have e2 : (acc ++ ((if k > 0 then ", " else "" : String) : Str) ++ t).cps.toList = acc.cps.toList ++ (sepN k ++ t.cps.toList) := by
      rw [cpsA, cpsA, Array.toList_append, Array.toList_append, List.append_assoc]
      congr 2
      unfold sepN
      by_cases h : 0 < k
      · rw [if_pos h, if_pos h]; decide +kernel
      · rw [if_neg h, if_neg h]; decide +kernel
    rw [e2, List.map_cons]
    show _ = _ ++ (sepN k ++ (_ ++ _))
    simp only [List.append_assoc]
theorem cps_list (ts : List Str) : (listText ts).cps.toList = encL (ts.map fun t => t.cps.toList) := by
  unfold listText encL
  rw [cpsA, Array.toList_append, cps_from]
  rfl
theorem shown_map {α : Type} (f : α → PyData) : ∀ l : List α, PyData.shownAll (l.map f) = l.map fun a => (f a).shown
  | [] => by simp only [List.map_nil, PyData.shownAll]
  | a :: l => by simp only [List.map_cons, PyData.shownAll, shown_map f l]
theorem cps_dig : ∀ n < 10, (((toString ((n : Nat) : Int) : String) : Str)).cps.toList = [48 + n] := by decide +kernel
/-- what str gives -/
def txS (ll : List (List Nat)) : Str := (dLL ll).shown
def SmL (ll : List (List Nat)) : Prop := ∀ r ∈ ll, ∀ x ∈ r, x < 10
theorem cps_ln {l : List Nat} (h : ∀ x ∈ l, x < 10) : (dLn l).shown.cps.toList = enc1 l := by
  unfold dLn enc1
  rw [PyData.shown, shown_map, cps_list, List.map_map]
  congr 1
  refine List.map_congr_left fun n hn => ?_
  show (PyData.int (n : Int)).shown.cps.toList = encN n
  rw [PyData.shown, cps_dig n (h n hn)]
  rfl
theorem cps_ll {ll : List (List Nat)} (h : SmL ll) : (txS ll).cps.toList = enc2 ll := by
  unfold txS dLL enc2
  rw [PyData.shown, shown_map, cps_list, List.map_map]
  congr 1
  refine List.map_congr_left fun r hr => ?_
  exact cps_ln (h r hr)
section
variable {α : Type} {P : α → Prop} {enc : α → List Nat}
theorem flat_inj (hp : ∀ a b x y, P a → P b → enc a ++ x = enc b ++ y → a = b ∧ x = y) (hh : ∀ a, P a → ∃ c t, enc a = c :: t ∧ c ≠ 93) : ∀ (as bs : List α) (k : Nat) (x y : List Nat), (∀ a ∈ as, P a) → (∀ b ∈ bs, P b) → flatN k (as.map enc) ++ 93 :: x = flatN k (bs.map enc) ++ 93 :: y → as = bs ∧ x = y
  | [], [], k, x, y, _, _, e => by
    have e : 93 :: x = 93 :: y := e
    injection e with _ e
    exact ⟨rfl, e⟩
  | [], b :: bs, k, x, y, _, hb, e => by
    exfalso
    obtain ⟨c, t, ec, hc⟩ := hh b (hb b List.mem_cons_self)
    have e : 93 :: x = sepN k ++ (enc b ++ flatN (k + 1) (bs.map enc)) ++ 93 :: y := e
    rw [ec] at e
    unfold sepN at e
    split at e
    · injection e with e; exact absurd e (by decide)
    · injection e with e; exact hc e.symm
  | a :: as, [], k, x, y, ha, _, e => by
    exfalso
    obtain ⟨c, t, ec, hc⟩ := hh a (ha a List.mem_cons_self)
    have e : sepN k ++ (enc a ++ flatN (k + 1) (as.map enc)) ++ 93 :: x = 93 :: y := e
    rw [ec] at e
    unfold sepN at e
    split at e
    · injection e with e; exact absurd e (by decide)
    · injection e with e; exact hc e
  | a :: as, b :: bs, k, x, y, ha, hb, e => by
    have e : sepN k ++ (enc a ++ flatN (k + 1) (as.map enc)) ++ 93 :: x = sepN k ++ (enc b ++ flatN (k + 1) (bs.map enc)) ++ 93 :: y := e
    simp only [List.append_assoc] at e
    have e2 := List.append_cancel_left e
    obtain ⟨rfl, e3⟩ := hp a b _ _ (ha a List.mem_cons_self) (hb b List.mem_cons_self) e2
    obtain ⟨rfl, e4⟩ := flat_inj hp hh as bs (k + 1) x y (fun z hz => ha z (List.mem_cons_of_mem _ hz)) (fun z hz => hb z (List.mem_cons_of_mem _ hz)) e3
    exact ⟨rfl, e4⟩
theorem encL_inj (hp : ∀ a b x y, P a → P b → enc a ++ x = enc b ++ y → a = b ∧ x = y) (hh : ∀ a, P a → ∃ c t, enc a = c :: t ∧ c ≠ 93) {as bs : List α} {x y : List Nat} (ha : ∀ a ∈ as, P a) (hb : ∀ b ∈ bs, P b) (e : encL (as.map enc) ++ x = encL (bs.map enc) ++ y) : as = bs ∧ x = y := by
  unfold encL at e
  injection e with _ e
  have e : (flatN 0 (as.map enc) ++ [93]) ++ x = (flatN 0 (bs.map enc) ++ [93]) ++ y := e
  rw [List.append_assoc, List.append_assoc] at e
  exact flat_inj hp hh as bs 0 x y ha hb e
theorem flatN_len {w : Nat} : ∀ (ts : List (List Nat)) (k : Nat), (∀ t ∈ ts, t.length ≤ w) → (flatN k ts).length ≤ (w + 2) * ts.length
  | [], _, _ => Nat.zero_le _
  | t :: ts, k, h => by
    have h1 := h t List.mem_cons_self
    have h2 := flatN_len ts (k + 1) fun u hu => h u (List.mem_cons_of_mem _ hu)
    have h3 : (sepN k).length ≤ 2 := by unfold sepN; split <;> decide
    show (sepN k ++ (t ++ flatN (k + 1) ts)).length ≤ _
    rw [List.length_append, List.length_append, List.length_cons, Nat.mul_add]
    omega
end
theorem enc1_inj {a b : List Nat} (ha : ∀ z ∈ a, z < 10) (hb : ∀ z ∈ b, z < 10) {x y : List Nat} (e : enc1 a ++ x = enc1 b ++ y) : a = b ∧ x = y :=
  encL_inj (P := fun z => z < 10) (fun a b x y _ _ e => by
    have e : (48 + a) :: x = (48 + b) :: y := e
    injection e with e1 e2
    exact ⟨by omega, e2⟩) (fun a h => ⟨48 + a, [], rfl, by omega⟩) ha hb e
theorem txS_inj {a b : List (List Nat)} (ha : SmL a) (hb : SmL b) (e : txS a = txS b) : a = b := by
  have e1 : enc2 a ++ [] = enc2 b ++ [] := by rw [← cps_ll ha, ← cps_ll hb, e]
  exact (encL_inj (P := fun r : List Nat => ∀ z ∈ r, z < 10) (fun a b x y h1 h2 e => enc1_inj h1 h2 e) (fun a _ => ⟨91, _, rfl, by decide⟩) ha hb e1).1
theorem txS_len {ll : List (List Nat)} (h : SmL ll) (h6 : ll.length ≤ 6) (hr : ∀ r ∈ ll, r.length ≤ 6) : (txS ll).length ≤ sizeLine := by
  have e : (txS ll).length = (txS ll).cps.toList.length := rfl
  rw [e, cps_ll h]
  have h1 : ∀ r ∈ ll.map enc1, r.length ≤ 20 := fun r hr' => by
    obtain ⟨q, hq, rfl⟩ := List.mem_map.mp hr'
    have h2 := flatN_len (w := 1) (q.map encN) 0 fun t ht => by
      obtain ⟨z, _, rfl⟩ := List.mem_map.mp ht
      exact Nat.le_refl _
    have h3 := hr q hq
    show (91 :: (flatN 0 (q.map encN) ++ [93])).length ≤ 20
    rw [List.length_cons, List.length_append, List.length_singleton]
    rw [List.length_map] at h2
    omega
  have h2 := flatN_len (ll.map enc1) 0 h1
  rw [List.length_map] at h2
  refine Nat.le_trans (m := 134) ?_ (by decide)
  show (91 :: (flatN 0 (ll.map enc1) ++ [93])).length ≤ 134
  rw [List.length_cons, List.length_append, List.length_singleton]
  omega
theorem show_all {α : Type} {f : α → PyData} : ∀ {l : List α}, (∀ a ∈ l, (f a).showable = true) → PyData.showableAll (l.map f) = true
  | [], _ => by simp only [List.map_nil, PyData.showableAll]
  | a :: l, h => by
    simp only [List.map_cons, PyData.showableAll, Bool.and_eq_true]
    exact ⟨h a List.mem_cons_self, show_all fun b hb => h b (List.mem_cons_of_mem _ hb)⟩
theorem show_ll {ll : List (List Nat)} (h : SmL ll) : (dLL ll).showable = true := by
  unfold dLL
  rw [PyData.showable]
  refine show_all fun r hr => ?_
  unfold dLn
  rw [PyData.showable]
  refine show_all fun n hn => ?_
  rw [PyData.showable]
  exact (by decide : ∀ n < 10, decide (((n : Nat) : Int).natAbs.log2 < 1920) = true) n (h r hr n hn)
section
variable {W : WX} {Γ : Ctx} {M : List Re} {κ : KV} {ε : KX} {K : PySem.W.Frag} {ll : List (List Nat)} {tk tv : TE} {r : Rp} {k : Key}
theorem am_strLL (h : SmL ll) (h6 : ll.length ≤ 6) (hr : ∀ r ∈ ll, r.length ≤ 6) (kk : κ (rV (.str (txS ll))) M) : AM (rStrD K) [rLL K ll] M κ := fun B G H vs o ra Q q => by
  obtain ⟨x, rfl, hx⟩ := ra1 ra
  have hd := dt_ll (K := K) ll
  obtain ⟨a, ws, rfl, h1, h2⟩ := id hx
  refine ⟨a, dLL ll, rfl, hd.as (.ref a) H ((rLL K ll).mono o.i hx), show_ll h, PyData.hasDict_of_canLay _ hd.sh.1, Nat.le_trans hd.sh.2 (by decide), txS_len h h6 hr, q _ G H _ M kk o (Ex.refl _) rfl⟩
/-- {k: v} -/
theorem e_disp1 (hk : EvX Γ tk (rV (kV k))) (hv : EvX Γ tv r) (kk : ∀ p, κ (rV (.ref p)) (M ++ [dicR p [(k, r)]])) : EW W Γ M (tDisp [(tk, tv)]) κ ε := fun B G H σ o en Q q x p hp => by
  have gp := fresh_back o.i hp
  have g3 := Gr.out (o := .dK []) o.i hp
  have o1 := o.add (R := dicR p []) g3 (show [p].Nodup by simp) (fun a ha => by rw [List.mem_singleton.mp ha]; exact ⟨hp, gp⟩) ⟨[], upd_same, .nil⟩
  refine hk σ G en _ o1.i _ fun v1 G1 H1 g1 hv1 => hv σ G1 (en.mono g1.g) H1 g1.i _ fun v2 G2 H2 g2 hv2 => ?_
  obtain rfl : v1 = kV k := hv1
  have o2 := (o1.gr g1).gr g2
  have hm : (M ++ [dicR p []])[M.length]? = some (dicR p []) := by rw [List.getElem?_append_right (Nat.le_refl _), Nat.sub_self]; rfl
  obtain ⟨ws, e1, e2⟩ := o2.m _ (List.mem_of_getElem? hm)
  cases e2
  refine ⟨e1, [(k, v2)], rfl, (by show 1 ≤ 15; decide), ?_⟩
  have o3 := o2.chgD (ws := [(k, v2)]) (kvs' := [(k, r)]) hm (.cons ⟨rfl, hv2⟩ .nil)
  rw [show (M ++ [dicR p []]).set M.length (dicR p [(k, r)]) = M ++ [dicR p [(k, r)]] by
    rw [List.set_append_right _ _ (Nat.le_refl _), Nat.sub_self]; rfl] at o3
  exact q (.ref p) G2 _ (rV (.ref p)) _ (kk p) o3 (g1.g.trans g2.g) rfl
theorem e_dispW (h : ∀ p, EW W Γ (M ++ [dicR p []]) tk (fun rk M1 => ∃ k : Key, rk = rV (kV k) ∧ M1 = M ++ [dicR p []] ∧ EW W Γ (M ++ [dicR p []]) tv (fun rv M2 => M2 = M ++ [dicR p []] ∧ κ (rV (.ref p)) (M ++ [dicR p [(k, rv)]])) ε) ε) : EW W Γ M (tDisp [(tk, tv)]) κ ε := fun B G H σ o en Q q x p hp => by
  have gp := fresh_back o.i hp
  have g3 := Gr.out (o := .dK []) o.i hp
  have o1 := o.add (R := dicR p []) g3 (show [p].Nodup by simp) (fun a ha => by rw [List.mem_singleton.mp ha]; exact ⟨hp, gp⟩) ⟨[], upd_same, .nil⟩
  refine h p B G _ σ o1 en _ (fun v1 G1 H1 r1 M1 z o2 e1 hv1 => ?_) x
  obtain ⟨k, rfl, rfl, z2⟩ := z
  obtain rfl : v1 = kV k := hv1
  refine z2 B G1 H1 σ o2 (en.mono e1) _ (fun v2 G2 H2 r2 M2 z3 o3 e2 hv2 => ?_) (x.up e1)
  obtain ⟨rfl, kk⟩ := z3
  have hm : (M ++ [dicR p []])[M.length]? = some (dicR p []) := by rw [List.getElem?_append_right (Nat.le_refl _), Nat.sub_self]; rfl
  obtain ⟨ws, d1, d2⟩ := o3.m _ (List.mem_of_getElem? hm)
  cases d2
  refine ⟨d1, [(k, v2)], rfl, (by show 1 ≤ 15; decide), ?_⟩
  have o4 := o3.chgD (ws := [(k, v2)]) (kvs' := [(k, r2)]) hm (.cons ⟨rfl, hv2⟩ .nil)
  rw [show (M ++ [dicR p []]).set M.length (dicR p [(k, r2)]) = M ++ [dicR p [(k, r2)]] by
    rw [List.set_append_right _ _ (Nat.le_refl _), Nat.sub_self]; rfl] at o4
  exact q (.ref p) G2 _ (rV (.ref p)) _ kk o4 (e1.trans e2) rfl
end
end Mu

namespace MuL
open PySem PySem.Spec PyProof.Rows L2 He Evl Mu
structure Tx (P : Program) (K : PySem.W.Frag) (mg : Str → Option Value) where
  C_Table : Addr
  g_Table : mg "Table" = some (.ref C_Table)
  c_Table : Cls K C_Table
  ic_Table : Mu.IsC K C_Table
  sf_Table : PySem.W.selfFirst K C_Table = true
  na_Table_size : NoAttr K C_Table "size"
  na_Table_masks : NoAttr K C_Table "masks"
  na_Table_cells : NoAttr K C_Table "cells"
  f_bits : Addr
  fd_bits : FuncData
  F_bits : FunD K "bits" "bits" (defArgs s_bits) (defBody s_bits) (defScope s_bits) [] [] f_bits fd_bits
  g_bits : mg "bits" = some (.ref f_bits)
  f_mask_of : Addr
  fd_mask_of : FuncData
  F_mask_of : FunD K "mask_of" "mask_of" (defArgs s_mask_of) (defBody s_mask_of) (defScope s_mask_of) [] [] f_mask_of fd_mask_of
  g_mask_of : mg "mask_of" = some (.ref f_mask_of)
  f_masks_of : Addr
  fd_masks_of : FuncData
  F_masks_of : FunD K "masks_of" "masks_of" (defArgs s_masks_of) (defBody s_masks_of) (defScope s_masks_of) [] [] f_masks_of fd_masks_of
  g_masks_of : mg "masks_of" = some (.ref f_masks_of)
  f_check_size : Addr
  fd_check_size : FuncData
  F_check_size : FunD K "check_size" "check_size" (defArgs s_check_size) (defBody s_check_size) (defScope s_check_size) [] [] f_check_size fd_check_size
  g_check_size : mg "check_size" = some (.ref f_check_size)
  f_image : Addr
  fd_image : FuncData
  F_image : FunD K "image" "image" (defArgs s_image) (defBody s_image) (defScope s_image) [] [] f_image fd_image
  g_image : mg "image" = some (.ref f_image)
  f_product : Addr
  fd_product : FuncData
  F_product : FunD K "product" "product" (defArgs s_product) (defBody s_product) (defScope s_product) [] [] f_product fd_product
  g_product : mg "product" = some (.ref f_product)
  f_Table___init__ : Addr
  fd_Table___init__ : FuncData
  F_Table___init__ : FunD K "__init__" "Table.__init__" (defArgs s_Table___init__) (defBody s_Table___init__) (defScope s_Table___init__) [] [] f_Table___init__ fd_Table___init__
  mk_Table : Mk K C_Table f_Table___init__
  f_Table_rows : Addr
  fd_Table_rows : FuncData
  F_Table_rows : FunD K "rows" "Table.rows" (defArgs s_Table_rows) (defBody s_Table_rows) (defScope s_Table_rows) [] [] f_Table_rows fd_Table_rows
  M_Table_rows : Meth K C_Table "rows" f_Table_rows
  d_Table_rows : Mu.Dun K C_Table "rows" f_Table_rows
  f_table_of_masks : Addr
  fd_table_of_masks : FuncData
  F_table_of_masks : FunD K "table_of_masks" "table_of_masks" (defArgs s_table_of_masks) (defBody s_table_of_masks) (defScope s_table_of_masks) [] [] f_table_of_masks fd_table_of_masks
  g_table_of_masks : mg "table_of_masks" = some (.ref f_table_of_masks)
  f_identity_masks : Addr
  fd_identity_masks : FuncData
  F_identity_masks : FunD K "identity_masks" "identity_masks" (defArgs s_identity_masks) (defBody s_identity_masks) (defScope s_identity_masks) [] [] f_identity_masks fd_identity_masks
  g_identity_masks : mg "identity_masks" = some (.ref f_identity_masks)
  f_power : Addr
  fd_power : FuncData
  F_power : FunD K "power" "power" (defArgs s_power) (defBody s_power) (defScope s_power) [] [] f_power fd_power
  g_power : mg "power" = some (.ref f_power)
  f_Table_repeated : Addr
  fd_Table_repeated : FuncData
  F_Table_repeated : FunD K "repeated" "Table.repeated" (defArgs s_Table_repeated) (defBody s_Table_repeated) (defScope s_Table_repeated) [] [] f_Table_repeated fd_Table_repeated
  M_Table_repeated : Meth K C_Table "repeated" f_Table_repeated
  d_Table_repeated : Mu.Dun K C_Table "repeated" f_Table_repeated
  f__law_box : Addr
  fd__law_box : FuncData
  F__law_box : FunD K "_law_box" "_law_box" (defArgs s__law_box) (defBody s__law_box) (defScope s__law_box) [] [] f__law_box fd__law_box
  g__law_box : mg "_law_box" = some (.ref f__law_box)
  f__law_take : Addr
  fd__law_take : FuncData
  F__law_take : FunD K "_law_take" "_law_take" (defArgs s__law_take) (defBody s__law_take) (defScope s__law_take) [] [] f__law_take fd__law_take
  g__law_take : mg "_law_take" = some (.ref f__law_take)
  f__law_words : Addr
  fd__law_words : FuncData
  F__law_words : FunD K "_law_words" "_law_words" (defArgs s__law_words) (defBody s__law_words) (defScope s__law_words) [] [] f__law_words fd__law_words
  g__law_words : mg "_law_words" = some (.ref f__law_words)
  f__law_rows : Addr
  fd__law_rows : FuncData
  F__law_rows : FunD K "_law_rows" "_law_rows" (defArgs s__law_rows) (defBody s__law_rows) (defScope s__law_rows) [] [] f__law_rows fd__law_rows
  g__law_rows : mg "_law_rows" = some (.ref f__law_rows)
  f__law_is_int : Addr
  fd__law_is_int : FuncData
  F__law_is_int : FunD K "_law_is_int" "_law_is_int" (defArgs s__law_is_int) (defBody s__law_is_int) (defScope s__law_is_int) [] [] f__law_is_int fd__law_is_int
  g__law_is_int : mg "_law_is_int" = some (.ref f__law_is_int)
  f__law_is_words : Addr
  fd__law_is_words : FuncData
  F__law_is_words : FunD K "_law_is_words" "_law_is_words" (defArgs s__law_is_words) (defBody s__law_is_words) (defScope s__law_is_words) [] [] f__law_is_words fd__law_is_words
  g__law_is_words : mg "_law_is_words" = some (.ref f__law_is_words)
  f__law_same : Addr
  fd__law_same : FuncData
  F__law_same : FunD K "_law_same" "_law_same" (defArgs s__law_same) (defBody s__law_same) (defScope s__law_same) [] [] f__law_same fd__law_same
  g__law_same : mg "_law_same" = some (.ref f__law_same)
  f__law_join : Addr
  fd__law_join : FuncData
  F__law_join : FunD K "_law_join" "_law_join" (defArgs s__law_join) (defBody s__law_join) (defScope s__law_join) [] [] f__law_join fd__law_join
  g__law_join : mg "_law_join" = some (.ref f__law_join)
  f__law_same_rows : Addr
  fd__law_same_rows : FuncData
  F__law_same_rows : FunD K "_law_same_rows" "_law_same_rows" (defArgs s__law_same_rows) (defBody s__law_same_rows) (defScope s__law_same_rows) [] [] f__law_same_rows fd__law_same_rows
  g__law_same_rows : mg "_law_same_rows" = some (.ref f__law_same_rows)
  f__law_single : Addr
  fd__law_single : FuncData
  F__law_single : FunD K "_law_single" "_law_single" (defArgs s__law_single) (defBody s__law_single) (defScope s__law_single) [] [] f__law_single fd__law_single
  g__law_single : mg "_law_single" = some (.ref f__law_single)
  f__law_count_error : Addr
  fd__law_count_error : FuncData
  F__law_count_error : FunD K "_law_count_error" "_law_count_error" (defArgs s__law_count_error) (defBody s__law_count_error) (defScope s__law_count_error) [] [] f__law_count_error fd__law_count_error
  g__law_count_error : mg "_law_count_error" = some (.ref f__law_count_error)
  f__law_power : Addr
  fd__law_power : FuncData
  F__law_power : FunD K "_law_power" "_law_power" (defArgs s__law_power) (defBody s__law_power) (defScope s__law_power) [] [] f__law_power fd__law_power
  g__law_power : mg "_law_power" = some (.ref f__law_power)
  f_law : Addr
  fd_law : FuncData
  F_law : FunD K "law" "law" (defArgs s_law) (defBody s_law) (defScope s_law) [] [] f_law fd_law
  g_law : mg "law" = some (.ref f_law)
  pf : Mu.PF P "/claim/cut.py"
  m_super : mg "super" = none
  C_BadCount : Addr
  g_BadCount : mg "BadCount" = some (.ref C_BadCount)
  C_BadSize : Addr
  g_BadSize : mg "BadSize" = some (.ref C_BadSize)
  C_BadTable : Addr
  g_BadTable : mg "BadTable" = some (.ref C_BadTable)
  C_UnknownWord : Addr
  g_UnknownWord : mg "UnknownWord" = some (.ref C_UnknownWord)
  C_SizeMismatch : Addr
  g_SizeMismatch : mg "SizeMismatch" = some (.ref C_SizeMismatch)
  C_BadPerson : Addr
  g_BadPerson : mg "BadPerson" = some (.ref C_BadPerson)
  C_BadLetter : Addr
  g_BadLetter : mg "BadLetter" = some (.ref C_BadLetter)
  C_UnknownPerson : Addr
  g_UnknownPerson : mg "UnknownPerson" = some (.ref C_UnknownPerson)
  C_TooMany : Addr
  g_TooMany : mg "TooMany" = some (.ref C_TooMany)
  C_BadPattern : Addr
  g_BadPattern : mg "BadPattern" = some (.ref C_BadPattern)
  C_SameWord : Addr
  g_SameWord : mg "SameWord" = some (.ref C_SameWord)
  C_UnknownClue : Addr
  g_UnknownClue : mg "UnknownClue" = some (.ref C_UnknownClue)
  C_BadPlace : Addr
  g_BadPlace : mg "BadPlace" = some (.ref C_BadPlace)
  C_TooLong : Addr
  g_TooLong : mg "TooLong" = some (.ref C_TooLong)
  C_Melted : Addr
  g_Melted : mg "Melted" = some (.ref C_Melted)
  C_NothingToUndo : Addr
  g_NothingToUndo : mg "NothingToUndo" = some (.ref C_NothingToUndo)
  C_NothingToRedo : Addr
  g_NothingToRedo : mg "NothingToRedo" = some (.ref C_NothingToRedo)
  C_Refused : Addr
  g_Refused : mg "Refused" = some (.ref C_Refused)
  C_BadLine : Addr
  g_BadLine : mg "BadLine" = some (.ref C_BadLine)
  C_MurmurError : Addr
  g_MurmurError : mg "MurmurError" = some (.ref C_MurmurError)
  f_BadCount___init__ : Addr
  fd_BadCount___init__ : FuncData
  cda_BadCount___init__ : Addr
  cc_BadCount___init__ : Addr
  S_BadCount___init__ : Mu.FunS K "__init__" "BadCount.__init__" (defArgs s_BadCount___init__) (defBody s_BadCount___init__) (defScope s_BadCount___init__) "/claim/cut.py" C_BadCount f_BadCount___init__ fd_BadCount___init__ cda_BadCount___init__ cc_BadCount___init__
  err_BadCount : Mu.ErrC K C_BadCount f_BadCount___init__
  nf_BadCount_count : PySem.W.findIn K (.ref C_BadCount) "count" = some none
  xm_BadCount : PySem.W.exmOne K (.ref C_BadCount) (.ref C_BadCount) = some true
  sg_BadCount : Mu.Sg K [C_BadSize, C_BadTable, C_UnknownWord, C_SizeMismatch, C_BadCount, C_BadPerson, C_BadLetter, C_UnknownPerson, C_TooMany, C_BadPattern, C_SameWord, C_UnknownClue, C_BadPlace, C_TooLong, C_Melted, C_NothingToUndo, C_NothingToRedo, C_Refused, C_BadLine] C_MurmurError C_BadCount
  m_len : mg "len" = none
  m_range : mg "range" = none
  m_tuple : mg "tuple" = none
  m_list : mg "list" = none
  m_int : mg "int" = none
  m_abs : mg "abs" = none
  m_enumerate : mg "enumerate" = none
  m_isinstance : mg "isinstance" = none
  m_bool : mg "bool" = none
  m_str : mg "str" = none
  m_iter : mg "iter" = none
  m_ValueError : mg "ValueError" = none
  gi_GREATEST_SIZE : ∃ t, mg "GREATEST_SIZE" = some (.int 6 t)
theorem mkTx {P : Program} {K : PySem.W.Frag} {h : Heap} {mg : Str → Option Value} (pf : Mu.PF P "/claim/cut.py") (X : K.In h) (G : h.Ns mainGlobals mg) (c : Mu.SaysS fa ex fn sn K) : ∃ T : Tx P K mg, T.f_law = fAd K ("law", none) := by
  obtain ⟨fd_bits, F_bits⟩ := c.def_ 0 (d := d_bits) rfl
  obtain ⟨fd_mask_of, F_mask_of⟩ := c.def_ 1 (d := d_mask_of) rfl
  obtain ⟨fd_masks_of, F_masks_of⟩ := c.def_ 2 (d := d_masks_of) rfl
  obtain ⟨fd_check_size, F_check_size⟩ := c.def_ 3 (d := d_check_size) rfl
  obtain ⟨fd_image, F_image⟩ := c.def_ 4 (d := d_image) rfl
  obtain ⟨fd_product, F_product⟩ := c.def_ 5 (d := d_product) rfl
  obtain ⟨fd_Table___init__, F_Table___init__⟩ := c.def_ 6 (d := d_Table___init__) rfl
  obtain ⟨fd_Table_rows, F_Table_rows⟩ := c.def_ 7 (d := d_Table_rows) rfl
  obtain ⟨fd_table_of_masks, F_table_of_masks⟩ := c.def_ 8 (d := d_table_of_masks) rfl
  obtain ⟨fd_identity_masks, F_identity_masks⟩ := c.def_ 9 (d := d_identity_masks) rfl
  obtain ⟨fd_power, F_power⟩ := c.def_ 10 (d := d_power) rfl
  obtain ⟨fd_Table_repeated, F_Table_repeated⟩ := c.def_ 11 (d := d_Table_repeated) rfl
  obtain ⟨fd__law_box, F__law_box⟩ := c.def_ 12 (d := d__law_box) rfl
  obtain ⟨fd__law_take, F__law_take⟩ := c.def_ 13 (d := d__law_take) rfl
  obtain ⟨fd__law_words, F__law_words⟩ := c.def_ 14 (d := d__law_words) rfl
  obtain ⟨fd__law_rows, F__law_rows⟩ := c.def_ 15 (d := d__law_rows) rfl
  obtain ⟨fd__law_is_int, F__law_is_int⟩ := c.def_ 16 (d := d__law_is_int) rfl
  obtain ⟨fd__law_is_words, F__law_is_words⟩ := c.def_ 17 (d := d__law_is_words) rfl
  obtain ⟨fd__law_same, F__law_same⟩ := c.def_ 18 (d := d__law_same) rfl
  obtain ⟨fd__law_join, F__law_join⟩ := c.def_ 19 (d := d__law_join) rfl
  obtain ⟨fd__law_same_rows, F__law_same_rows⟩ := c.def_ 20 (d := d__law_same_rows) rfl
  obtain ⟨fd__law_single, F__law_single⟩ := c.def_ 21 (d := d__law_single) rfl
  obtain ⟨fd__law_count_error, F__law_count_error⟩ := c.def_ 22 (d := d__law_count_error) rfl
  obtain ⟨fd__law_power, F__law_power⟩ := c.def_ 23 (d := d__law_power) rfl
  obtain ⟨fd_law, F_law⟩ := c.def_ 24 (d := d_law) rfl
  obtain ⟨fd_BadCount___init__, cda_BadCount___init__, cc_BadCount___init__, S_BadCount___init__⟩ := c.sup_ 0 (d := d_BadCount___init__) rfl
  exact ⟨⟨ga K "Table", glo_ok X G (c.fact 0 (f := .glo "Table") rfl), cls_ok (c.fact 1 (f := .cls "Table") rfl), Mu.isCB_ok (cls_ok (c.fact 2 (f := .cls "Table") rfl)) (c.exf 0 (f := (fun K => Mu.isCB K (ga K "Table"))) rfl), (c.exf 1 (f := (fun K => PySem.W.selfFirst K (ga K "Table"))) rfl), noat_ok (c.fact 3 (f := .noat "Table" "size") rfl), noat_ok (c.fact 4 (f := .noat "Table" "masks") rfl), noat_ok (c.fact 5 (f := .noat "Table" "cells") rfl), fAd K ("bits", none), fd_bits, F_bits, glo_ok X G (c.fact 6 (f := .glo "bits") rfl), fAd K ("mask_of", none), fd_mask_of, F_mask_of, glo_ok X G (c.fact 7 (f := .glo "mask_of") rfl), fAd K ("masks_of", none), fd_masks_of, F_masks_of, glo_ok X G (c.fact 8 (f := .glo "masks_of") rfl), fAd K ("check_size", none), fd_check_size, F_check_size, glo_ok X G (c.fact 9 (f := .glo "check_size") rfl), fAd K ("image", none), fd_image, F_image, glo_ok X G (c.fact 10 (f := .glo "image") rfl), fAd K ("product", none), fd_product, F_product, glo_ok X G (c.fact 11 (f := .glo "product") rfl), fAd K ("Table", some "__init__"), fd_Table___init__, F_Table___init__, mkr_ok (c.fact 12 (f := .mkr "Table") rfl), fAd K ("Table", some "rows"), fd_Table_rows, F_Table_rows, meth_ok (c.fact 13 (f := .meth "Table" "rows") rfl), ⟨(meth_ok (c.fact 13 (f := .meth "Table" "rows") rfl)).1, (meth_ok (c.fact 13 (f := .meth "Table" "rows") rfl)).2⟩, fAd K ("table_of_masks", none), fd_table_of_masks, F_table_of_masks, glo_ok X G (c.fact 14 (f := .glo "table_of_masks") rfl), fAd K ("identity_masks", none), fd_identity_masks, F_identity_masks, glo_ok X G (c.fact 15 (f := .glo "identity_masks") rfl), fAd K ("power", none), fd_power, F_power, glo_ok X G (c.fact 16 (f := .glo "power") rfl), fAd K ("Table", some "repeated"), fd_Table_repeated, F_Table_repeated, meth_ok (c.fact 17 (f := .meth "Table" "repeated") rfl), ⟨(meth_ok (c.fact 17 (f := .meth "Table" "repeated") rfl)).1, (meth_ok (c.fact 17 (f := .meth "Table" "repeated") rfl)).2⟩, fAd K ("_law_box", none), fd__law_box, F__law_box, glo_ok X G (c.fact 18 (f := .glo "_law_box") rfl), fAd K ("_law_take", none), fd__law_take, F__law_take, glo_ok X G (c.fact 19 (f := .glo "_law_take") rfl), fAd K ("_law_words", none), fd__law_words, F__law_words, glo_ok X G (c.fact 20 (f := .glo "_law_words") rfl), fAd K ("_law_rows", none), fd__law_rows, F__law_rows, glo_ok X G (c.fact 21 (f := .glo "_law_rows") rfl), fAd K ("_law_is_int", none), fd__law_is_int, F__law_is_int, glo_ok X G (c.fact 22 (f := .glo "_law_is_int") rfl), fAd K ("_law_is_words", none), fd__law_is_words, F__law_is_words, glo_ok X G (c.fact 23 (f := .glo "_law_is_words") rfl), fAd K ("_law_same", none), fd__law_same, F__law_same, glo_ok X G (c.fact 24 (f := .glo "_law_same") rfl), fAd K ("_law_join", none), fd__law_join, F__law_join, glo_ok X G (c.fact 25 (f := .glo "_law_join") rfl), fAd K ("_law_same_rows", none), fd__law_same_rows, F__law_same_rows, glo_ok X G (c.fact 26 (f := .glo "_law_same_rows") rfl), fAd K ("_law_single", none), fd__law_single, F__law_single, glo_ok X G (c.fact 27 (f := .glo "_law_single") rfl), fAd K ("_law_count_error", none), fd__law_count_error, F__law_count_error, glo_ok X G (c.fact 28 (f := .glo "_law_count_error") rfl), fAd K ("_law_power", none), fd__law_power, F__law_power, glo_ok X G (c.fact 29 (f := .glo "_law_power") rfl), fAd K ("law", none), fd_law, F_law, glo_ok X G (c.fact 30 (f := .glo "law") rfl), pf, free_ok X G (c.fact 31 (f := .free "super") rfl), ga K "BadCount", glo_ok X G (c.fact 32 (f := .glo "BadCount") rfl), ga K "BadSize", glo_ok X G (c.fact 33 (f := .glo "BadSize") rfl), ga K "BadTable", glo_ok X G (c.fact 34 (f := .glo "BadTable") rfl), ga K "UnknownWord", glo_ok X G (c.fact 35 (f := .glo "UnknownWord") rfl), ga K "SizeMismatch", glo_ok X G (c.fact 36 (f := .glo "SizeMismatch") rfl), ga K "BadPerson", glo_ok X G (c.fact 37 (f := .glo "BadPerson") rfl), ga K "BadLetter", glo_ok X G (c.fact 38 (f := .glo "BadLetter") rfl), ga K "UnknownPerson", glo_ok X G (c.fact 39 (f := .glo "UnknownPerson") rfl), ga K "TooMany", glo_ok X G (c.fact 40 (f := .glo "TooMany") rfl), ga K "BadPattern", glo_ok X G (c.fact 41 (f := .glo "BadPattern") rfl), ga K "SameWord", glo_ok X G (c.fact 42 (f := .glo "SameWord") rfl), ga K "UnknownClue", glo_ok X G (c.fact 43 (f := .glo "UnknownClue") rfl), ga K "BadPlace", glo_ok X G (c.fact 44 (f := .glo "BadPlace") rfl), ga K "TooLong", glo_ok X G (c.fact 45 (f := .glo "TooLong") rfl), ga K "Melted", glo_ok X G (c.fact 46 (f := .glo "Melted") rfl), ga K "NothingToUndo", glo_ok X G (c.fact 47 (f := .glo "NothingToUndo") rfl), ga K "NothingToRedo", glo_ok X G (c.fact 48 (f := .glo "NothingToRedo") rfl), ga K "Refused", glo_ok X G (c.fact 49 (f := .glo "Refused") rfl), ga K "BadLine", glo_ok X G (c.fact 50 (f := .glo "BadLine") rfl), ga K "MurmurError", glo_ok X G (c.fact 51 (f := .glo "MurmurError") rfl), fAd K ("BadCount", some "__init__"), fd_BadCount___init__, cda_BadCount___init__, cc_BadCount___init__, S_BadCount___init__, Mu.errB_ok (c.exf 2 (f := (fun K => Mu.errB K (ga K "BadCount") (fAd K ("BadCount", some "__init__")))) rfl), He.eqO_ok (c.exf 3 (f := (fun K => He.eqO (PySem.W.findIn K (.ref (ga K "BadCount")) "count") (some none))) rfl), of_decide_eq_true (c.exf 4 (f := (fun K => decide (PySem.W.exmOne K (.ref (ga K "BadCount")) (.ref (ga K "BadCount")) = some true))) rfl), Mu.sgB_ok (c.exf 5 (f := (fun K => Mu.sgB K [ga K "BadSize", ga K "BadTable", ga K "UnknownWord", ga K "SizeMismatch", ga K "BadCount", ga K "BadPerson", ga K "BadLetter", ga K "UnknownPerson", ga K "TooMany", ga K "BadPattern", ga K "SameWord", ga K "UnknownClue", ga K "BadPlace", ga K "TooLong", ga K "Melted", ga K "NothingToUndo", ga K "NothingToRedo", ga K "Refused", ga K "BadLine"] (ga K "MurmurError") (ga K "BadCount"))) rfl), free_ok X G (c.fact 52 (f := .free "len") rfl), free_ok X G (c.fact 53 (f := .free "range") rfl), free_ok X G (c.fact 54 (f := .free "tuple") rfl), free_ok X G (c.fact 55 (f := .free "list") rfl), free_ok X G (c.fact 56 (f := .free "int") rfl), free_ok X G (c.fact 57 (f := .free "abs") rfl), free_ok X G (c.fact 58 (f := .free "enumerate") rfl), free_ok X G (c.fact 59 (f := .free "isinstance") rfl), free_ok X G (c.fact 60 (f := .free "bool") rfl), free_ok X G (c.fact 61 (f := .free "str") rfl), free_ok X G (c.fact 62 (f := .free "iter") rfl), free_ok X G (c.fact 63 (f := .free "ValueError") rfl), int_ok X G (c.fact 64 (f := .int "GREATEST_SIZE" 6) rfl)⟩, rfl⟩
end MuL

namespace MuL
open PySem PySem.Spec PyProof.Rows L2 He Evl Mu
section
variable {P : Program} {w : World} {K : PySem.W.Frag} {mg : Str → Option Value} {base : Heap}
local macro_rules | `(tactic| wtm_at "s") => `(tactic| first | assumption | omega | exact rfl | decide | wtm_at "s2")
local macro_rules | `(tactic| wtm_at "s2") => `(tactic| (simp only [List.length_map, List.length_range, List.length_cons, List.length_nil, List.length_append, List.length_take, List.length_drop]; omega))
local macro_rules | `(tactic| wtm_at "j") => `(tactic| first | exact List.mem_cons_self | (simp; done))
local macro_rules | `(tactic| wtm_at "tr") => `(tactic| (apply t_is; (focus (wtm_at "t")); exact rfl))
local macro_rules | `(tactic| wtm_at "bs") => `(tactic| first | exact rfl | (simp; done) | (simp [*]; done))
local macro_rules | `(tactic| wtm_at "yes") => `(tactic| (apply w_yes; (focus (apply t_is; (focus (wtm_at "t")); first | exact rfl | (simp; done) | (simp [*]; done)))))
local macro_rules | `(tactic| wtm_at "no") => `(tactic| (apply w_no; (focus (apply t_is; (focus (wtm_at "t")); first | exact rfl | (simp; done) | (simp [*]; done)))))
local macro_rules | `(tactic| wtm_at "nn") => `(tactic| first | exact nn_tab | exact nn_L | exact nn_T | exact nn_I)
local macro_rules | `(tactic| wtm_at "sub") => `(tactic| repeat' first | exact Paired.nil | refine Paired.cons (Or.inr rfl) ?_ | refine Paired.cons (Or.inl rfl) ?_)
local macro_rules | `(tactic| wtm_at "o") => `(tactic| first
    | ((with_reducible show OM (L2.rI CMul _) _ _ _ _); first | refine om (x_mulN (x_v rfl) (x_v rfl) (by first | exact .inl (by wtm_at "s") | exact .inr (by wtm_at "s"))) ?_)
    | ((with_reducible show OM (L2.rI CDiv _) _ _ _ _); first | refine om (x_divN (x_v rfl) (x_v rfl) (by wtm_at "s") (by wtm_at "s")) ?_)
    | ((with_reducible show OM (rI0 _) _ _ _ _); first | refine om (x_addN (x_v rfl) (x_v rfl)) ?_ | refine om (x_subN (x_v rfl) (x_v rfl) (by wtm_at "s")) ?_ | refine om (x_bandN (x_v rfl) (x_v rfl)) ?_ | refine om (x_borN (x_v rfl) (x_v rfl)) ?_ | refine om (x_ltN (x_v rfl) (x_v rfl)) ?_ | refine om (x_leN (x_v rfl) (x_v rfl)) ?_ | refine om (x_gtN (x_v rfl) (x_v rfl)) ?_ | refine om (x_geN (x_v rfl) (x_v rfl)) ?_ | refine om (x_I0 (x_v rfl) (x_v rfl)) ?_)
    | ((with_reducible show OM (L2.rI _ _) _ _ _ _); first | refine om (x_powN (x_v rfl) (x_v rfl) (by wtm_at "s") (by wtm_at "s")) ?_ | refine om (x_shrN (x_v rfl) (x_v rfl)) ?_ | refine om (x_shlN1 (x_v rfl) (x_v rfl) (by wtm_at "s")) ?_ | refine om (x_I (x_v rfl) (x_v rfl) (by wtm_at "s")) ?_)
    | ((with_reducible show OM rEq _ _ _ _); first | refine om (x_eqN (x_v rfl) (x_v rfl)) ?_ | refine om (x_eqI (x_v rfl) (x_v rfl)) ?_ | refine om (x_eqV (x_v rfl) (x_v rfl) rfl) ?_)
    | ((with_reducible show OM rNe _ _ _ _); first | refine om (x_neN (x_v rfl) (x_v rfl)) ?_ | refine om (x_neI (x_v rfl) (x_v rfl)) ?_ | refine om (x_neV (x_v rfl) (x_v rfl) rfl) ?_)
    | ((with_reducible show OM (rIxT _) _ _ _ _); first | refine om (x_ixTn (x_v rfl) (x_v rfl) (by wtm_at "s")) ?_ | refine om (x_ixT (x_v rfl) (x_v rfl) rfl) ?_ | refine om (x_ixTm default (x_v rfl) (x_v rfl) (by wtm_at "s")) ?_)
    | ((with_reducible show OM (rIxL _) _ _ _ _); first | refine om (x_ixB (x_v rfl) (x_v rfl) (by wtm_at "s")) ?_ | refine om (x_ixLn (x_v rfl) (x_v rfl) (by wtm_at "s")) ?_ | refine om (x_ixLL (x_v rfl) (x_v rfl) (by wtm_at "s")) ?_ | refine om_ixOwn 0 rfl (by wtm_at "s") ?_ | refine om_ixOwn 1 rfl (by wtm_at "s") ?_ | refine om_ixOwn 2 rfl (by wtm_at "s") ?_ | refine om_ixOwn 3 rfl (by wtm_at "s") ?_ | refine om (x_ixL (x_v rfl) (x_v rfl) rfl) ?_ | refine om (x_ixL (x_v rfl) (x_v rfl) (by assumption)) ?_ | refine om (x_ixLm default (x_v rfl) (x_v rfl) (by wtm_at "s")) ?_)
    | ((with_reducible show OM (rIn _ _) _ _ _ _); first | refine om (x_inLn (l := [_, _]) (x_v rfl) (x_v rfl)) ?_ | refine om (x_inLn (l := [_, _, _]) (x_v rfl) (x_v rfl)) ?_ | refine om (x_inLn (x_v rfl) (x_v rfl)) ?_ | refine om (x_niLn (x_v rfl) (x_v rfl)) ?_ | refine om (x_niTn (x_v rfl) (x_v rfl)) ?_ | refine om (x_inTi true (x_v rfl) (x_v rfl)) ?_ | refine om (x_inTi false (x_v rfl) (x_v rfl)) ?_ | refine om (x_inLi true (x_v rfl) (x_v rfl)) ?_ | refine om (x_inLi false (x_v rfl) (x_v rfl)) ?_)
    | ((with_reducible show OM (rEqD _) _ _ _ _); first | refine om (x_eqLn0 (x_v rfl) (x_v rfl)) ?_ | refine om (x_eqLn (x_v rfl) (x_v rfl)) ?_ | refine om (x_eqTn (x_v rfl) (x_v rfl)) ?_ | refine om (x_eqLL (x_v rfl) (x_v rfl)) ?_)
    | ((with_reducible show OM (rNeD _) _ _ _ _); first | refine om (x_neLn0 (x_v rfl) (x_v rfl)) ?_ | refine om (x_neLn (x_v rfl) (x_v rfl)) ?_ | refine om (x_neTn (x_v rfl) (x_v rfl)) ?_ | refine om (x_neLL (x_v rfl) (x_v rfl)) ?_ | refine om (x_neP (x_v rfl) (x_v rfl)) ?_)
    | ((with_reducible show OM (rInD _) _ _ _ _); first | refine om (x_inP (x_v rfl) (x_v rfl)) ?_)
    | ((with_reducible show OM (rNotInD _) _ _ _ _); first | refine om (x_niP (x_v rfl) (x_v rfl)) ?_)
    | ((with_reducible show OM (rInTD _) _ _ _ _); first | refine om (x_inTP (x_v rfl) (x_v rfl)) ?_)
    | ((with_reducible show OM rIsB _ _ _ _); first | refine om (x_isB (x_v rfl) (x_v rfl)) ?_)
    | ((with_reducible show OM rNotB _ _ _ _); first | refine om (x_isNB (x_v rfl) (x_v rfl)) ?_)
    | ((with_reducible show OM (fun _ _ _ _ => _ ∧ _) _ _ _ _); first | refine om_isN0 ?_ | refine om_notN0 ?_ | refine om_isN1 (by wtm_at "nn") ?_ | refine om_notN1 (by wtm_at "nn") ?_)
    | ((with_reducible show OM rInS _ _ _ _); first | refine om (x_inS (x_v rfl) (x_v rfl)) ?_)
    | ((with_reducible show OM rNotInS _ _ _ _); first | refine om (x_niS (x_v rfl) (x_v rfl)) ?_)
    | ((with_reducible show OM rLtS _ _ _ _); first | refine om (x_ltS (x_v rfl) (x_v rfl)) ?_)
    | ((with_reducible show OM rAddT _ _ _ _); first | refine om_addL (by wtm_at "s") ?_ | refine om (x_addT (x_v rfl) (x_v rfl) (by wtm_at "s")) ?_)
    | ((with_reducible show OM rIxS _ _ _ _); first | refine om_ixT (by wtm_at "s") (by assumption) ?_ | refine om (x_ixS (x_v rfl) (x_v rfl) (by wtm_at "s") (by assumption)) ?_)
    | ((with_reducible show OM rDIn _ _ _ _); first | refine om_dinF ?_)
    | ((with_reducible show OM rDNotIn _ _ _ _); first | refine om_dniF ?_)
    | ((with_reducible show OM rDGet _ _ _ _); first | refine om_dgetF (by assumption) ?_)
    | ((with_reducible show OM rRep _ _ _ _); first | refine om_rep (by wtm_at "s") (by wtm_at "s") ?_)
    | ((with_reducible show OM rCat _ _ _ _); first | refine om_cat (by wtm_at "s") ?_ | refine om (x_catm (x_v rfl) (x_v rfl) (by wtm_at "s")) ?_))
local macro_rules | `(tactic| wtm_at "a") => `(tactic| first
    | ((with_reducible show AM (rLenS _) _ _ _); first | refine am1 (x_lenLn (x_v rfl)) ?_ | refine am1 (x_lenTn (x_v rfl)) ?_ | refine am1 (x_lenB (x_v rfl)) ?_ | refine am1 (x_lenLL (x_v rfl)) ?_ | refine am1 (x_lenLm (x_v rfl)) ?_ | refine am1 (x_lenTm (x_v rfl)) ?_ | refine am_own 0 rfl (x_lenLm (x_v rfl)) ?_ | refine am_own 1 rfl (x_lenLm (x_v rfl)) ?_ | refine am_own 2 rfl (x_lenLm (x_v rfl)) ?_ | refine am_own 3 rfl (x_lenLm (x_v rfl)) ?_ | refine am_own 1 rfl (x_lenLm' (x_v rfl)) ?_ | refine am_own 2 rfl (x_lenLm' (x_v rfl)) ?_ | refine am1 (x_lenL (x_v rfl)) ?_ | refine am1 (x_lenT (x_v rfl)) ?_)
    | ((with_reducible show AM rLenT _ _ _); first | refine am_lenL (by wtm_at "s") ?_ | refine am_lenT (Nat.le_of_ble_eq_true rfl) ?_ | refine am_lenT (by wtm_at "s") ?_)
    | ((with_reducible show AM rLenD _ _ _); first | refine am_lenD ?_)
    | ((with_reducible show AM (rTupO _) _ _ _); first | refine am1 (x_tupL (x_v rfl)) ?_)
    | ((with_reducible show AM rListK _ _ _); first | refine am_listK (K := by assumption) (by assumption) ?_)
    | ((with_reducible show AM (rListS _) _ _ _); first | refine am_listL ?_ | refine am_listT ?_ | refine am_listOwn 0 rfl ?_ | refine am_listOwn 1 rfl ?_ | refine am_listOwn 2 rfl ?_)
    | ((with_reducible show AM (rIsi _) _ _ _); first | refine am2c (x_isInt (x_v rfl)) ?_ | refine am2c (x_isList (x_v rfl)) ?_ | refine am2c (x_isTup (x_v rfl)) ?_ | refine am2c (x_isStrS (x_v rfl)) ?_ | refine am2c (x_isIntS (x_v rfl)) ?_ | refine am2c (x_isTab (Tx.ic_Table (by assumption)) (x_v rfl)) ?_ | refine am2c (x_isIns (by assumption) (by assumption) (x_v rfl)) ?_)
    | ((with_reducible show AM _ _ _ _); first | refine am1 (x_int (x_v rfl)) ?_ | refine mk_tab (by assumption) (by wtm_at "s") (by wtm_at "s") ?_))
local macro_rules | `(tactic| wtm_at "c") => `(tactic| fail)

local macro_rules | `(tactic| wtm_at "f") => `(tactic| first
    | refine f_own 0 rfl (by wtm_at "s") (by wtm_at "s") rfl ?_
    | refine f_own _ (by assumption) (by wtm_at "s") (by wtm_at "s") rfl ?_
    | refine f_ins (by wtm_at "s") (by wtm_at "s") rfl ?_
    | refine f_tab (x_size (x_v rfl) (Tx.c_Table (by assumption)) (Tx.na_Table_size (by assumption))) ?_
    | refine f_tab (x_masks (x_v rfl) (Tx.c_Table (by assumption)) (Tx.na_Table_masks (by assumption))) ?_
    | refine f_tab (x_cells (x_v rfl) (Tx.c_Table (by assumption)) (Tx.na_Table_cells (by assumption))) ?_)
local macro_rules | `(tactic| wtm_at "v") => `(tactic| first
    | ((with_reducible show EW _ _ _ (tMakeV _ _ _) _ _); refine e_makeV rfl ?_)
    | ((with_reducible show EW _ _ _ (tCM [_] _ (WE _) _) _ _); refine e_cmS ?_)
    | ((with_reducible show EW _ _ _ (tCM [] _ (WE _) _) _ _); refine e_smS ?_)
    | ((with_reducible show EW _ _ _ (tCM [_] _ _ _) _ _); refine e_cm ?_)
    | ((with_reducible show EW _ _ _ (tCM [] _ _ _) _ _); refine e_sm ?_)
    | ((with_reducible show EW _ _ _ (ClX.tCVal _ _ _) _ _); refine e_cval (by assumption) (by assumption) ?_)
    | ((with_reducible show EW _ _ _ (tVar _) _ _); refine e_v rfl ?_)
    | ((with_reducible show EW _ _ _ (tC (V.int _)) _ _); refine e_cn ?_)
    | ((with_reducible show EW _ _ _ (tC _) _ _); refine e_c ?_)
    | ((with_reducible show EW _ _ _ (tOp _ _ _) _ _); refine e_op ?_)
    | ((with_reducible show EW _ _ _ (tCB _ _) _ _); refine e_cb ?_)
    | ((with_reducible show EW _ _ _ (tCall _ [_] _ _) _ _); refine e_callD0 ?_)
    | ((with_reducible show EW _ _ _ (tCall _ _ _ _) _ _); refine e_call ?_)
    | ((with_reducible show EW _ _ _ (tCallS _ _ _) _ _); refine e_callS ?_)
    | ((with_reducible show EW _ _ _ (tFld _ _ _) _ _); refine e_fld _ ?_)
    | ((with_reducible show EW _ _ _ (tTup _) _ _); refine e_tup (by assumption) ?_)
    | ((with_reducible show EW _ _ _ (tLst _) _ _); refine e_lst (by assumption) ?_)
    | ((with_reducible show EW _ _ _ (tUn _ _) _ _); refine e_un ?_)
    | ((with_reducible show EW _ _ _ (tMake _ (spTab _ _) _ _ _) _ _); refine e_make ?_)
    | ((with_reducible show EW _ _ _ (tMakeS _ _ _ _) _ _); refine e_makeS ?_)
    | ((with_reducible show EW _ _ _ (tMeth _ _ _ _ _ _ _) _ _); refine e_meth ?_)
    | ((with_reducible show EW _ _ _ (tMethS _ _ _ _ _ _) _ _); refine e_methS ?_)
    | ((with_reducible show EW _ _ _ (tProp _ _ _ _ _) _ _); refine e_prop ?_)
    | ((with_reducible show EW _ _ _ (tLc (iList _ _) _ tYes _ _) _ _); apply e_lcL0; (focus (wtm_at "x")); (focus (wtm_at "s")); (focus (intro a ha; wtm_at "x")); (focus (wtm_at "j")))
    | ((with_reducible show EW _ _ _ (tLc (iTup _ _) _ tYes _ _) _ _); apply e_lcT0; (focus (wtm_at "x")); (focus (wtm_at "s")); (focus (intro a ha; wtm_at "x")); (focus (wtm_at "j")))
    | ((with_reducible show EW _ _ _ (tLc (iRng1 _) _ tYes _ _) _ _); apply e_lcR0 (by assumption); (focus (wtm_at "x")); (focus (wtm_at "s")); (focus (intro a ha; wtm_at "x")); (focus (wtm_at "j")))
    | ((with_reducible show EW _ _ _ (tLc (iList _ _) _ _ _ _) _ _); apply e_lcL; (focus (wtm_at "x")); (focus (wtm_at "s")); (focus (intro a ha; wtm_at "tr")); (focus (intro a ha hf; wtm_at "x")); (focus (wtm_at "j")))
    | ((with_reducible show EW _ _ _ (tLc (iTup _ _) _ _ _ _) _ _); apply e_lcT; (focus (wtm_at "x")); (focus (wtm_at "s")); (focus (intro a ha; wtm_at "tr")); (focus (intro a ha hf; wtm_at "x")); (focus (wtm_at "j")))
    | ((with_reducible show EW _ _ _ (tLc (iRng1 _) _ _ _ _) _ _); apply e_lcR (by assumption); (focus (wtm_at "x")); (focus (wtm_at "s")); (focus (intro a ha; wtm_at "tr")); (focus (intro a ha hf; wtm_at "x")); (focus (wtm_at "j")))
    | ((with_reducible show EW _ _ _ (tSl (rSlL _) _ tNoPart (tPart _)) _ _); apply e_slTo; (focus (wtm_at "x")))
    | ((with_reducible show EW _ _ _ (tSl (rSlL _) _ (tPart _) tNoPart) _ _); apply e_slFrom; (focus (wtm_at "x")))
    | ((with_reducible show EW _ _ _ (tSl rSlS _ tNoPart (tPart _)) _ _); apply e_sSTo; (focus (wtm_at "x")))
    | ((with_reducible show EW _ _ _ (tSl rSlS _ (tPart _) tNoPart) _ _); apply e_sSFrom; (focus (wtm_at "x")))
    | ((with_reducible show EW _ _ _ (tAndV _ _) _ _); first | (apply e_and; (focus (wtm_at "x")); (focus (intro hq; wtm_at "x"))) | (apply e_x; (focus (apply x_and0; (focus (wtm_at "x")); wtm_at "bs"))))
    | ((with_reducible show EW _ _ _ (tOrV _ _) _ _); first | (apply e_or; (focus (wtm_at "x")); (focus (intro hq; wtm_at "x"))) | (apply e_x; (focus (apply x_or1; (focus (wtm_at "x")); wtm_at "bs"))))
    | ((with_reducible show EW _ _ _ (tMake _ (spIni _ _) _ _ _) _ _); refine e_makeI ?_ spIni_E)
    | ((with_reducible show EW _ _ _ (tSup _ _ _ _ _ _ _) _ _); refine e_sup rfl (by assumption) ?_)
    | ((with_reducible show EW _ _ _ (tNotV _) _ _); apply e_not; (focus (wtm_at "x")))
    | ((with_reducible show EW _ _ _ (tBM _ _ _ _ _) _ _); first | refine e_app 0 rfl ?_ rfl | refine e_app 1 rfl ?_ rfl | refine e_app 2 rfl ?_ rfl | refine e_app 3 rfl ?_ rfl))
local macro_rules | `(tactic| wtm_at "e1") => `(tactic| first
    | ((with_reducible show EW _ _ _ _ _ _); wtm_at "v")
    | ((with_reducible show EA _ _ _ _ _ _); first | refine a_cons ?_ | refine a_nil ?_)
    | ((with_reducible show OM _ _ _ _ _); first | wtm_at "o" | wtm_at "c")
    | ((with_reducible show AM _ _ _ _); first | wtm_at "a" | wtm_at "c")
    | ((with_reducible show CM _ _ _ _); wtm_at "c")
    | ((with_reducible show XM _ _ _ _ _); wtm_at "c")
    | ((with_reducible show MkM _ _ _ _ _ _); wtm_at "c")
    | ((with_reducible show UM _ _ _ _); first | wtm_at "f" | refine um (x_neg (x_v rfl)) ?_ | wtm_at "c")
    | ((with_reducible show InsR _ _ _ ∧ _); first | refine ⟨ins_tab rfl, ?_⟩ | refine ⟨ins_ins rfl, ?_⟩ | refine ⟨ins_ins (by assumption), ?_⟩)
    | ((with_reducible show (∀ (v : V) (G : Hp), _ → ∃ a dx fs, _) ∧ _); first | refine ⟨ins_is, ?_⟩ | refine ⟨tab_is, ?_⟩)
    | ((with_reducible show And (@LE.le Nat _ _ _) _); refine ⟨Nat.le_of_ble_eq_true rfl, ?_⟩)
    | ((with_reducible show ∃ rs : List Rp, _ ∧ _ ∧ _); refine ⟨_, rfl, by wtm_at "s", ?_⟩)
    | ((with_reducible show ∃ rs : List Rp, _ = rL _ rs ∧ _); refine ⟨_, rfl, ?_⟩)
    | ((with_reducible show ∃ l : List Nat, _ = rV _ ∧ _ ∧ _ ∧ _); refine ⟨_, rfl, by wtm_at "s", by wtm_at "s", ?_⟩)
    | ((with_reducible show ∃ fs : FL, _ ∧ _ ∧ _ ∧ _); refine ⟨_, rfl, rfl, Nat.le_of_ble_eq_true rfl, ?_⟩)
    | ((with_reducible show _ = _ ∧ _ = ([] : List Re)); first | exact ⟨rfl, rfl⟩ | exact ⟨by wtm_at "q", rfl⟩))
local macro_rules | `(tactic| wtm_at "q") => `(tactic| first | rfl | exact congrArg nI (by omega) | exact congrArg Mu.rI (by omega) | exact congrArg rB (by wtm_at "b"))
local macro_rules | `(tactic| wtm_at "b") => `(tactic| first | rfl | (rw [Bool.eq_iff_iff]; simp; omega))
local macro_rules | `(tactic| wtm_at "e") => `(tactic| repeat wtm_at "e1")
local macro_rules | `(tactic| wtm_at "co") => `(tactic| fail)

local macro_rules | `(tactic| wtm_at "eo") => `(tactic| repeat first | ((with_reducible show CM _ _ _ _); wtm_at "co") | ((with_reducible show XM _ _ _ _ _); wtm_at "co") | wtm_at "e1")
local macro_rules | `(tactic| wtm_at "x") => `(tactic| first | exact x_v rfl | exact x_c | (apply EvX.by; intro W ε; (wtm_at "e"); done))
local macro_rules | `(tactic| wtm_at "t") => `(tactic| first
    | ((with_reducible show EvTX _ tYes _); exact t_yes)
    | ((with_reducible show EvTX _ (tAnd _ _) _); first | (apply t_and; (focus (wtm_at "t")); (focus (intro hq; wtm_at "t"))) | (apply t_and0; (focus (wtm_at "t")); wtm_at "bs"))
    | ((with_reducible show EvTX _ (tOr _ _) _); first | (apply t_or; (focus (wtm_at "t")); (focus (intro hq; wtm_at "t"))) | (apply t_or1; (focus (wtm_at "t")); wtm_at "bs"))
    | ((with_reducible show EvTX _ (tNot _) _); apply t_not; wtm_at "t")
    | ((with_reducible show EvTX _ (tTest (tChain _ _ _ _ _)) _); apply t_chain; (focus (wtm_at "x")); (focus (wtm_at "x")); (focus (wtm_at "x")))
    | ((with_reducible show EvTX _ (tTest _) _); apply t_T; wtm_at "x")
    | ((with_reducible show EvTX _ (tB _) _); apply t_B; wtm_at "x"))
local macro_rules | `(tactic| wtm_at "tq") => `(tactic| (apply t_is; (focus (wtm_at "t")); try wtm_at "b"))
local macro_rules | `(tactic| wtm_at "if") => `(tactic| (apply w_if; (focus (wtm_at "t"))))
local macro_rules | `(tactic| wtm_at "ifc") => `(tactic| (refine ws_if ?_; (repeat first | refine w_tNot ?_ | refine w_tB ?_ | refine w_t ?_ | wtm_at "e1" | ((with_reducible show ∃ c : Bool, _ = rB c ∧ _); refine ⟨_, rfl, ?_⟩)); refine ⟨?_, ?_⟩))
local macro_rules | `(tactic| wtm_at "w1") => `(tactic| first
    | ((with_reducible show WP _ _ _ (tSeq _ _) _); refine w_seq ?_)
    | ((with_reducible show WP _ _ _ (tAsg _ (gName _)) _); refine ws_set ?_; (wtm_at "e"); dsimp only [List.set])
    | ((with_reducible show WP _ _ _ (tRet _) _); refine ws_ret ?_; (wtm_at "e"))
    | ((with_reducible show WP _ _ _ (sFld _ (tVar _) _ _) _); refine ws_fld 0 rfl rfl (by wtm_at "s") (by wtm_at "s") ?_; (wtm_at "e"); dsimp only [List.set])
    | ((with_reducible show WP _ _ _ (tDrop _) _); refine ws_do ?_; (wtm_at "e"))
    | ((with_reducible show WP _ _ _ tNext _); (refine w_nx ?_))
    | ((with_reducible show WP _ _ _ tRetN _); refine w_ret0 ?_))
local macro_rules | `(tactic| wtm_at "w") => `(tactic| repeat ((try dsimp only); wtm_at "w1"))
theorem sc_bits : FnScope ["mask", "found", "place"] ["mask"] (defScope s_bits) := ⟨rfl, rfl, rfl, by decide +kernel, rfl, by decide +kernel, by decide +kernel⟩
theorem b_bits (T : Tx P K mg) : Binds K T.fd_bits ["mask"] [] := T.F_bits.bindsN fun _ _ _ _ _ _ us hl => match us, hl with | [_], _ => rfl
def R_bits : List V → Hp → List Rp → Prop := fun vs _ rs => ∃ n : Nat, vs = [.int (n : Int)] ∧ n < 2 ^ 64 ∧ rs = (bitsN n).map nI
theorem ok_bits (T : Tx P K mg) : FnOk P w K mg base CX0 1 T.f_bits T.fd_bits ["mask"] (spN R_bits) := by
  refine T.F_bits.ok sc_bits (fun vs H Q E h => ?_) (fun cdv A outer s H vs Q E hr h => ?_)
  · obtain ⟨G, rs, _, ⟨n, rfl, _⟩, _⟩ := h
    rfl
  · obtain ⟨G, rs, e, ⟨n, rfl, hn, rfl⟩, k⟩ := h
    refine ⟨_, PSs.nox (pss_cons (ps_set (i := 1) sc_bits.nd rfl (Or.inl rfl) (pe_lst pa_nil))
      (pss_cons (ps_set (i := 2) sc_bits.nd rfl (Or.inl rfl) pe_int)
      (pss_cons (ps_while PassesOwn.never (pt_cmpR op_gt (pv 0) pe_int (nomark _)) (pss_cons (ps_if (pt_cmpR op_eq (pe_op op_and (pv 0) pe_int) pe_int (nomark _)) (pss_one (ps_expr (pe_bm PySem.F.plainAttrs_list PySem.F.slot_list_append PySem.F.type_list_append mt_append (pv 1) (pa_cons (pv 2) pa_nil)))) pss_nil)
      (pss_cons (ps_set (i := 0) sc_bits.nd rfl (Or.inl rfl) (pe_op op_shr (pv 0) pe_int))
      (pss_one (ps_set (i := 2) sc_bits.nd rfl (Or.inl rfl) (pe_op op_add (pv 2) pe_int))))))
      (pss_one (ps_ret (pv 1)))))), ?_⟩
    refine sq (s_setN e (en_lst ead_nil (by decide)) fun p vs G1 H1 g1 hp gp h1 ra => ?_)
    cases ra
    refine sq (Mu.s_set g1.i ev_c fun H2 e2 => ?_)
    refine sq (s_while (fun m σ' H' => ∃ i : Nat, σ' = [some (.int ((n / 2 ^ i : Nat) : Int)), some (.ref p), some (.int (i : Int))] ∧ m = n / 2 ^ i ∧ i ≤ 64 ∧ Ex H H' ∧ H' p = some (.lst (((List.range i).filter n.testBit).map fun (j : Nat) => V.int (j : Int)))) n ⟨0, ?_, by simp, by omega, g1.h.trans e2, e2 _ _ h1⟩ fun m σ' H' ⟨i, hσ, hm, hi, eH, hl⟩ => ?_)
    · simp; rfl
    · subst hσ
      refine ⟨_, et_cmp (ev_var rfl) ev_c, fun hb H3 e3 => ?_, fun hb H3 e3 => ?_⟩
      · have hpos : (0 : Int) < ((n / 2 ^ i : Nat) : Int) := of_decide_eq_true hb
        have hi64 : i < 64 := by
          rcases Nat.lt_or_ge i 64 with q | q
          · exact q
          · have e64 : i = 64 := by omega
            subst e64
            rw [Nat.div_eq_of_lt hn] at hpos
            omega
        refine ⟨_, fun _ _ z => z, ?_⟩
        have tl : ∀ H4 ls, Ex H H4 → H4 p = some (.lst ls) → ls = (((List.range (i + 1)).filter n.testBit).map fun (j : Nat) => V.int (j : Int)) → ∀ D : Ends,
            (∀ σ2 H2, (∃ m', m' < m ∧ ∃ i : Nat, σ2 = [some (.int ((n / 2 ^ i : Nat) : Int)), some (.ref p), some (.int (i : Int))] ∧ m' = n / 2 ^ i ∧ i ≤ 64 ∧ Ex H H2 ∧ H2 p = some (.lst (((List.range i).filter n.testBit).map fun (j : Nat) => V.int (j : Int)))) → D.nx σ2 H2) →
            tSeq (tAsg (tOp (rI (fun _ j => 0 ≤ j) fun i j => .int (i / 2 ^ j.toNat)) (tVar 0) (tC (.int 1))) (gName 0)) (tAsg (tOp (rI0 fun i j => .int (i + j)) (tVar 2) (tC (.int 1))) (gName 2)) D [some (.int ((n / 2 ^ i : Nat) : Int)), some (.ref p), some (.int (i : Int))] H4 := by
          intro H4 ls e4 h4 hls D hD
          refine sq (Mu.s_set (Ex.refl H4) (ev_op (ev_var rfl) ev_c (rv_I (by decide))) fun H5 e5 => ?_)
          refine Mu.s_set (Ex.refl H5) (ev_op (ev_var rfl) ev_c rv_I0) fun H6 e6 => ?_
          refine hD _ _ ⟨n / 2 ^ (i + 1), ?_, i + 1, ?_, rfl, by omega, (e4.trans e5).trans e6, by rw [e6 _ _ (e5 _ _ h4), hls]⟩
          · rw [hm, Nat.pow_succ, ← Nat.div_div_eq_div_mul]
            exact Nat.div_lt_self (by omega) (by decide)
          · rw [shr1, Nat.div_div_eq_div_mul, ← Nat.pow_succ]
            rfl
        refine sq (s_ifE (Ex.refl H3) (et_eq (ev_op (ev_var rfl) ev_c rv_I0) ev_c rfl) (fun hb H4 e4 => ?_) (fun hb H4 e4 => ?_))
        · have hbit : n.testBit i = true := by
            have q := of_decide_eq_true hb
            have q2 : Builtin.bitAnd ((n / 2 ^ i : Nat) : Int) 1 = 1 := by injection q
            rw [← bit_test, shr_nat]
            exact decide_eq_true q2
          have hl4 := e4 _ _ (e3 _ _ hl)
          refine s_app hl4 (ev_var rfl) (ev_var rfl) (by have := List.length_filter_le n.testBit (List.range i); rw [List.length_map]; rw [List.length_range] at this; omega) fun H5 e5 => ?_
          refine tl _ _ (Ex.mut ((eH.trans e3).trans (e4.trans e5)) hp) upd_same ?_ _ fun _ _ z => z
          rw [List.range_succ, List.filter_append, List.map_append]
          simp [hbit]
        · have hbit : n.testBit i = false := by
            have q := of_decide_eq_false hb
            cases z : n.testBit i with
            | false => rfl
            | true =>
              refine absurd ?_ q
              rw [← bit_test, shr_nat] at z
              rw [of_decide_eq_true z]
          refine nxt ?_
          refine tl H4 _ ((eH.trans e3).trans e4) (e4 _ _ (e3 _ _ hl)) ?_ _ fun _ _ z => z
          rw [List.range_succ, List.filter_append, List.map_append]
          simp [hbit]
      · have h0 : n / 2 ^ i = 0 := by
          have q := of_decide_eq_false hb
          omega
        have hlt : n < 2 ^ i := by
          rcases Nat.lt_or_ge n (2 ^ i) with q | q
          · exact q
          · have := Nat.div_pos q (Nat.two_pow_pos i)
            omega
        rw [bits_eq hlt] at hl
        refine s_retE (Ex.refl H3) (ev_var rfl) fun H4 e4 => ?_
        exact k p _ G H4 ((Gr.refl e).more ((eH.trans e3).trans e4)) hp (fresh_back e hp) (e4 _ _ (e3 _ _ hl)) ra_nats

theorem c_bits (T : Tx P K mg) {M : List Re} {κ : KV} {n : Nat} (h : n < 2 ^ 64) (k : κ (rLn K (bitsN n)) M) : CM (spN R_bits) [nI n] M κ := cmn (fun vs G ra => by
  obtain ⟨x, rfl, hx⟩ := ra1 ra
  obtain rfl : x = V.int (n : Int) := hx
  exact SpN.of ⟨n, rfl, h, rfl⟩) k
theorem o_bits (T : Tx P K mg) {M : List Re} {κ : KV} {n : Nat} (h : n < 2 ^ 64) (k : ∀ p, κ (rV (.ref p)) (M ++ [lstR p ((bitsN n).map nI)])) : CM (spN R_bits) [nI n] M κ := cmo (fun vs G ra => by
  obtain ⟨x, rfl, hx⟩ := ra1 ra
  obtain rfl : x = V.int (n : Int) := hx
  exact SpN.of ⟨n, rfl, h, rfl⟩) k
local macro_rules | `(tactic| wtm_at "co") => `(tactic| refine o_bits (by assumption) (by wtm_at "s") ?_)
local macro_rules | `(tactic| wtm_at "c") => `(tactic| refine c_bits (by assumption) (by wtm_at "s") ?_)
theorem sc_mask_of : FnScope ["words", "mask", "word"] ["words"] (defScope s_mask_of) := ⟨rfl, rfl, rfl, by decide +kernel, rfl, by decide +kernel, by decide +kernel⟩
theorem b_mask_of (T : Tx P K mg) : Binds K T.fd_mask_of ["words"] [] := T.F_mask_of.bindsN fun _ _ _ _ _ _ us hl => match us, hl with | [_], _ => rfl
def R_mask_of (K : PySem.W.Frag) : List V → Hp → Rp → Prop := fun vs G r => ∃ (x : V) (l : List Nat), vs = [x] ∧ (rLn K l).p x G ∧ (∀ w ∈ l, w < 64) ∧ r = nI (maskN l)
theorem ok_mask_of (T : Tx P K mg) : FnOk P w K mg base CX0 1 T.f_mask_of T.fd_mask_of ["words"] (spD (R_mask_of K)) := by
  refine T.F_mask_of.ok sc_mask_of (fun vs H Q E h => ?_) (fun cdv A outer s H vs Q E hr h => ?_)
  · obtain ⟨G, r, _, ⟨x, l, rfl, _⟩, _⟩ := h
    rfl
  · obtain ⟨G, r, e, ⟨x, l, rfl, hx, hl, rfl⟩, k⟩ := h
    refine ⟨_, PSs.nox (pss_cons (ps_set (i := 1) sc_mask_of.nd rfl (Or.inl rfl) pe_int)
      (pss_cons (ps_for PassesOwn.never rfl (pi_listK K (pv 0)) (pg_name (i := 2) sc_mask_of.nd rfl (Or.inl rfl)) (pss_one (ps_set (i := 1) sc_mask_of.nd rfl (Or.inl rfl) (pe_op op_or (pv 1) (pe_op op_shl pe_int (pv 2))))))
      (pss_one (ps_ret (pv 1))))), ?_⟩
    refine sq (Mu.s_set e ev_c fun H1 e1 => ?_)
    refine sq (Mu.s_forL l nI (e.trans e1) (ed_var rfl hx) (fun G1 i σ' H' => Ex G1 H' ∧ Ex H H' ∧ ∃ u, σ' = [some x, some (.int ((maskN (l.take i) : Nat) : Int)), u]) (fun G1 H2 g => ⟨g.i, e1.trans g.h, none, rfl⟩) (fun _ _ _ _ p => p.1) ?_ ?_)
    · rintro G1 i w y σ' H' eG hi hy ⟨e2, e3, u, rfl⟩
      obtain rfl : y = V.int (w : Int) := hy
      have hw := hl w (List.mem_of_getElem? hi)
      refine Mu.s_set (Ex.refl H') (ev_op (ev_var rfl) (ev_op ev_c (ev_var rfl) (rv_I ⟨by omega, by omega, by decide⟩)) rv_I0) fun H4 e4 => ?_
      refine ⟨e2.trans e4, e3.trans e4, some (.int (w : Int)), ?_⟩
      show [some x, some (.int (Builtin.bitOr ((maskN (l.take i) : Nat) : Int) (1 * 2 ^ ((w : Int)).toNat))), some (.int (w : Int))] = _
      rw [shl_nat, bor_nat, ← maskN_take hi]
    · rintro G1 σ' H' eG ⟨e2, e3, u, rfl⟩
      rw [List.take_length]
      refine s_retE (Ex.refl H') (ev_var rfl) fun H4 e4 => k _ G H4 ((Gr.refl e).more (e3.trans e4)) rfl

theorem c_mask_of (T : Tx P K mg) {M : List Re} {κ : KV} {l : List Nat} (h : ∀ w ∈ l, w < 64) (k : κ (nI (maskN l)) M) : CM (spD (R_mask_of K)) [rLn K l] M κ := cm (fun vs G ra => by
  obtain ⟨x, rfl, hx⟩ := ra1 ra
  exact SpD.of ⟨x, l, rfl, hx, h, rfl⟩) k
local macro_rules | `(tactic| wtm_at "c") => `(tactic| refine c_mask_of (by assumption) (by wtm_at "s") ?_)
theorem sc_masks_of : FnScope ["rows", "row"] ["rows"] (defScope s_masks_of) := ⟨rfl, rfl, rfl, by decide +kernel, rfl, by decide +kernel, by decide +kernel⟩
theorem b_masks_of (T : Tx P K mg) : Binds K T.fd_masks_of ["rows"] [] := T.F_masks_of.bindsN fun _ _ _ _ _ _ us hl => match us, hl with | [_], _ => rfl
def R_masks_of (K : PySem.W.Frag) : List V → Hp → Rp → Prop := fun vs G r => ∃ (x : V) (l : List (List Nat)), vs = [x] ∧ (rLL K l).p x G ∧ l.length ≤ 1000 ∧ (∀ q ∈ l, ∀ w ∈ q, w < 64) ∧ r = rTn K (l.map maskN)
theorem ok_masks_of (T : Tx P K mg) : FnOk P w K mg base CX0 2 T.f_masks_of T.fd_masks_of ["rows"] (spD (R_masks_of K)) := by
  refine T.F_masks_of.ok sc_masks_of (fun vs H Q E h => ?_) (fun cdv A outer s H vs Q E hr h => ?_)
  · obtain ⟨G, r, _, ⟨x, l, rfl, _⟩, _⟩ := h
    rfl
  · obtain ⟨G, r, e, ⟨x, l, rfl, hx, hn, hl, rfl⟩, k⟩ := h
    refine ⟨_, PSs.nox (pss_one (ps_ret (pe_callTy (call_tupK K) (by rfl) T.m_tuple (by decide +kernel) (pa_cons (pe_lc (own := [("row", 1)]) (by rfl) sc_masks_of.nd (pi_listK K (pv 0)) (blkOk_by (N := ["rows", "row"]) (sc := defScope s_masks_of) (by decide +kernel)) (fun _ _ _ _ _ => (pg_name (i := 1) sc_masks_of.nd rfl (Or.inl rfl))) (fun _ _ _ _ _ => pts_nil) (fun _ _ _ _ _ => (pe_call (ok_mask_of T) (hr.mono (by decide)) (by rfl) T.g_mask_of T.F_mask_of.kp (b_mask_of T) .nil pass0 (pa_cons (pv 1) pa_nil)))) pa_nil)))), ?_⟩
    refine s_retD e (ed_is (ed_tupL (EvN.d (en_lcL0 l (rLn K) (fun q => nI (maskN q)) (ed_var rfl hx) (by omega) (fun _ => rfl) fun q y G1 hq e1 hy => ed_call (ead_cons (ed_var rfl hy) ead_nil) fun vs G2 e2 ra => ?_))) ?_) fun v G2 H2 g hv => k v G2 H2 g hv
    · obtain ⟨y, rfl, hy⟩ := ra1 ra
      exact SpD.of ⟨y, q, rfl, hy, hl q hq, rfl⟩
    · unfold rTn
      rw [List.map_map]; rfl
theorem sc_check_size : FnScope ["size"] ["size"] (defScope s_check_size) := ⟨rfl, rfl, rfl, by decide +kernel, rfl, by decide +kernel, by decide +kernel⟩
theorem b_check_size (T : Tx P K mg) : Binds K T.fd_check_size ["size"] [] := T.F_check_size.bindsN fun _ _ _ _ _ _ us hl => match us, hl with | [_], _ => rfl
def R_check_size : List V → Hp → Rp → Prop := fun vs _ r => ∃ n : Nat, vs = [.int (n : Int)] ∧ 1 ≤ n ∧ n ≤ 6 ∧ r = rV .non
theorem ok_check_size (T : Tx P K mg) : FnOk P w K mg base CX0 1 T.f_check_size T.fd_check_size ["size"] (spD R_check_size) := by
  refine T.F_check_size.ok sc_check_size (fun vs H Q E h => ?_) (fun cdv A outer s H vs Q E hr h => ?_)
  · obtain ⟨G, r, _, ⟨n, rfl, _⟩, _⟩ := h
    rfl
  · obtain ⟨G, r, e, ⟨n, rfl, h1, h6, rfl⟩, k⟩ := h
    refine ⟨_, PSs.nox (pss_one (ps_if (PW.pt (pw_or (pt_cmpR op_lt (pv 0) pe_int (nomark _)) (pw_or1 (pt_cmpR op_gt (pv 0) (pe_glob (v := .int 6) (by rfl) T.gi_GREATEST_SIZE.choose_spec ⟨_, rfl⟩) (nomark _))))) (pss_one ps_never) pss_nil)), ?_⟩
    refine s_ifE e (et_or (et_cmp (ev_var rfl) ev_c) fun _ => et_cmp (ev_var rfl) ev_c) (fun hb H1 e1 => ?_) (fun hb H1 e1 => ?_)
    · exfalso
      rcases Bool.or_eq_true_iff.mp hb with q | q
      · have := of_decide_eq_true q; omega
      · have := of_decide_eq_true q; omega
    · exact k _ G H1 ((Gr.refl e).more e1) rfl

theorem c_check_size (T : Tx P K mg) {M : List Re} {κ : KV} {n : Nat} (h1 : 1 ≤ n) (h6 : n ≤ 6) (k : κ (rV .non) M) : CM (spD R_check_size) [nI n] M κ := cm (fun vs G ra => by
  obtain ⟨x, rfl, hx⟩ := ra1 ra
  obtain rfl : x = V.int (n : Int) := hx
  exact SpD.of ⟨n, rfl, h1, h6, rfl⟩) k
local macro_rules | `(tactic| wtm_at "c") => `(tactic| refine c_check_size (by assumption) (by wtm_at "s") (by wtm_at "s") ?_)
theorem sc_image : FnScope ["masks", "words", "out", "word"] ["masks", "words"] (defScope s_image) := ⟨rfl, rfl, rfl, by decide +kernel, rfl, by decide +kernel, by decide +kernel⟩
theorem b_image (T : Tx P K mg) : Binds K T.fd_image ["masks", "words"] [] := T.F_image.bindsN fun _ _ _ _ _ _ us hl => match us, hl with | [_, _], _ => rfl
def R_image (K : PySem.W.Frag) : List V → Hp → Rp → Prop := fun vs G r => ∃ (x : V) (m : List Nat) (w : Nat), vs = [x, .int (w : Int)] ∧ (rTn K m).p x G ∧ m.length ≤ 1000 ∧ r = nI (imageN m w)
theorem ok_image (T : Tx P K mg) : FnOk P w K mg base CX0 1 T.f_image T.fd_image ["masks", "words"] (spD (R_image K)) := by
  refine T.F_image.ok sc_image (fun vs H Q E h => ?_) (fun cdv A outer s H vs Q E hr h => ?_)
  · obtain ⟨G, r, _, ⟨x, m, w, rfl, _⟩, _⟩ := h
    rfl
  · obtain ⟨G, r, e, ⟨x, m, w, rfl, hx, hl, rfl⟩, k⟩ := h
    refine ⟨_, PSs.nox (pss_cons (ps_set (i := 2) sc_image.nd rfl (Or.inl rfl) pe_int)
      (pss_cons (ps_for PassesOwn.never rfl (pi_range1 (by rfl) T.m_range (pa_cons (pe_callB (call_lenK K) (by rfl) T.m_len PySem.boot_len (pa_cons (pv 0) pa_nil)) pa_nil)) (pg_name (i := 3) sc_image.nd rfl (Or.inl rfl)) (pss_one (ps_if (pt_cmpR op_eq (pe_op op_and (pe_op op_shr (pv 1) (pv 3)) pe_int) pe_int (nomark _)) (pss_one (ps_set (i := 2) sc_image.nd rfl (Or.inl rfl) (pe_op op_or (pv 2) (pe_ix (ix_tupK K) (pv 0) (pv 3) (fun _ _ => rfl))))) pss_nil)))
      (pss_one (ps_ret (pv 2))))), ?_⟩
    refine sq (Mu.s_set e ev_c fun H1 e1 => ?_)
    refine sq (Mu.s_forR m.length (e.trans e1) (ea_cons (ev_lenT (ed_var rfl hx) (List.length_map _)) ea_nil) (by omega) (fun i σ' H' => Ex H H' ∧ ∃ u, σ' = [some x, some (.int (w : Int)), some (.int ((imageTo m w i : Nat) : Int)), u]) (fun H2 e2 => ⟨e1.trans e2, none, rfl⟩) ?_ ?_)
    · rintro i σ' H' hi ⟨e2, u, rfl⟩
      have eG := e.trans e2
      have hb := bit_test w i
      have hget : (m.map nI)[i]? = some (nI (m.getD i 0)) := by
        rw [List.getElem?_map, List.getD_eq_getElem?_getD, List.getElem?_eq_getElem hi]; rfl
      refine s_ifE (Ex.refl H') (et_eq (ev_op (ev_op (ev_var rfl) (ev_var rfl) (rv_I (by omega))) ev_c rv_I0) ev_c rfl) (fun hb1 H4 e4 => ?_) (fun hb1 H4 e4 => ?_)
      · have q : w.testBit i = true := by
          rw [← hb]
          have z := of_decide_eq_true hb1
          injection z with z
          exact decide_eq_true z
        refine Mu.s_set (Ex.refl H4) (ev_op (ev_var rfl) (EvD.ev (ed_ixT (ed_var rfl ((rTn K m).mono (eG.trans e4) hx)) (ev_var rfl) hget)) rv_I0) fun H5 e5 => ?_
        refine ⟨(e2.trans e4).trans e5, some (.int (i : Int)), ?_⟩
        show [some x, some (.int (w : Int)), some (.int (Builtin.bitOr ((imageTo m w i : Nat) : Int) ((m.getD i 0 : Nat) : Int))), some (.int (i : Int))] = _
        rw [bor_nat, imageTo_succ, if_pos q]
      · have q : ¬ w.testBit i = true := by
          rw [← hb]
          intro z
          have z2 := of_decide_eq_false hb1
          exact z2 (by rw [of_decide_eq_true z])
        refine nxt ⟨e2.trans e4, some (.int (i : Int)), ?_⟩
        show [some x, some (.int (w : Int)), some (.int ((imageTo m w i : Nat) : Int)), some (.int (i : Int))] = _
        rw [imageTo_succ, if_neg q]
    · rintro σ' H' ⟨e2, u, rfl⟩
      exact s_retE (Ex.refl H') (ev_var rfl) fun H4 e4 => k _ G H4 ((Gr.refl e).more (e2.trans e4)) rfl

theorem c_image (T : Tx P K mg) {M : List Re} {κ : KV} {m : List Nat} {w : Nat} (h : m.length ≤ 1000) (k : κ (nI (imageN m w)) M) : CM (spD (R_image K)) [rTn K m, nI w] M κ := cm (fun vs G ra => by
  obtain ⟨x, y, rfl, hx, hy⟩ := ra2 ra
  obtain rfl : y = V.int (w : Int) := hy
  exact SpD.of ⟨x, m, w, rfl, hx, h, rfl⟩) k
local macro_rules | `(tactic| wtm_at "c") => `(tactic| refine c_image (by assumption) (by wtm_at "s") ?_)
theorem sc_product : FnScope ["first", "last", "mask"] ["first", "last"] (defScope s_product) := ⟨rfl, rfl, rfl, by decide +kernel, rfl, by decide +kernel, by decide +kernel⟩
theorem b_product (T : Tx P K mg) : Binds K T.fd_product ["first", "last"] [] := T.F_product.bindsN fun _ _ _ _ _ _ us hl => match us, hl with | [_, _], _ => rfl
def R_product (K : PySem.W.Frag) : List V → Hp → Rp → Prop := fun vs G r => ∃ (x y : V) (f l : List Nat), vs = [x, y] ∧ (rTn K f).p x G ∧ (rTn K l).p y G ∧ f.length ≤ 1000 ∧ l.length ≤ 1000 ∧ r = rTn K (prodN f l)
theorem ok_product (T : Tx P K mg) : FnOk P w K mg base CX0 2 T.f_product T.fd_product ["first", "last"] (spD (R_product K)) := by
  refine T.F_product.ok sc_product (fun vs H Q E h => ?_) (fun cdv A outer s H vs Q E hr h => ?_)
  · obtain ⟨G, r, _, ⟨x, y, f, l, rfl, _⟩, _⟩ := h
    rfl
  · obtain ⟨G, r, e, ⟨x, y, f, l, rfl, hx, hy, hf, hl, rfl⟩, k⟩ := h
    refine ⟨_, PSs.nox (pss_one (ps_ret (pe_callTy (call_tupK K) (by rfl) T.m_tuple (by decide +kernel) (pa_cons (pe_lc (own := [("mask", 2)]) (by rfl) sc_product.nd (pi_tupK K (pv 0)) (blkOk_by (N := ["first", "last", "mask"]) (sc := defScope s_product) (by decide +kernel)) (fun _ _ _ _ _ => (pg_name (i := 2) sc_product.nd rfl (Or.inl rfl))) (fun _ _ _ _ _ => pts_nil) (fun _ _ _ _ _ => (pe_call (ok_image T) (hr.mono (by decide)) (by rfl) T.g_image T.F_image.kp (b_image T) .nil pass0 (pa_cons (pv 1) (pa_cons (pv 2) pa_nil))))) pa_nil)))), ?_⟩
    refine s_retD e (ed_is (ed_tupL (EvN.d (en_lcT0 f nI (fun q => nI (imageN l q)) (ed_var rfl hx) (by omega) (fun _ => rfl) fun q z G1 hq e1 hz => ed_call (ead_cons (ed_var rfl ((rTn K l).mono e1 hy)) (ead_cons (ed_var rfl hz) ead_nil)) fun vs G2 e2 ra => ?_))) ?_) fun v G2 H2 g hv => k v G2 H2 g hv
    · obtain ⟨u, v, rfl, hu, hv⟩ := ra2 ra
      obtain rfl : v = V.int (q : Int) := hv
      exact SpD.of ⟨u, l, q, rfl, hu, hl, rfl⟩
    · unfold rTn prodN
      rw [List.map_map]; rfl

theorem c_product (T : Tx P K mg) {M : List Re} {κ : KV} {f w : List Nat} (q0 : f.length ≤ 1000) (q1 : w.length ≤ 1000) (k : κ (rTn K (prodN f w)) M) : CM (spD (R_product K)) [rTn K f, rTn K w] M κ := cm (fun vs G ra => by
  obtain ⟨x, y, rfl, hx, hy⟩ := ra2 ra
  exact SpD.of ⟨x, y, f, w, rfl, hx, hy, q0, q1, rfl⟩) k
local macro_rules | `(tactic| wtm_at "c") => `(tactic| refine c_product (by assumption) (by wtm_at "s") (by wtm_at "s") ?_)
theorem sc_Table___init__ : FnScope ["self", "rows", "at", "row", "word", "told", "out"] ["self", "rows"] (defScope s_Table___init__) := ⟨rfl, rfl, rfl, by decide +kernel, rfl, by decide +kernel, by decide +kernel⟩
theorem b_Table___init__ (T : Tx P K mg) : Binds K T.fd_Table___init__ ["self", "rows"] [] := T.F_Table___init__.bindsN fun _ _ _ _ _ _ us hl => match us, hl with | [_, _], _ => rfl
theorem ok_Table___init__ (T : Tx P K mg) : FnOk P w K mg base CX0 3 T.f_Table___init__ T.fd_Table___init__ ["self", "rows"] (spTab K T.C_Table) := by
  refine T.F_Table___init__.ok sc_Table___init__ (fun vs H Q E h => ?_) (fun cdv A outer s H vs Q E hr h => ?_)
  · obtain ⟨p, dx, x, G, rows, rfl, _⟩ := h
    rfl
  · obtain ⟨p, dx, x, G, rows, rfl, hp, e, gp, hx, h1, h6, hrow, k⟩ := h
    have hlen : (rows.map (rLn K)).length = rows.length := List.length_map _
    refine ⟨_, PSs.nox (pss_cons (ps_expr (pe_call (ok_check_size T) (hr.mono (by decide)) (by rfl) T.g_check_size T.F_check_size.kp (b_check_size T) .nil pass0 (pa_cons (pe_callB (call_lenK K) (by rfl) T.m_len PySem.boot_len (pa_cons (pv 1) pa_nil)) pa_nil)))
      (pss_cons (ps_for PassesOwn.never rfl (pi_enum (by rfl) T.m_enumerate (pa_cons (pv 1) pa_nil)) (pg_tup rfl (pgs_cons (pg_name (i := 2) sc_Table___init__.nd rfl (Or.inl rfl)) (pgs_cons (pg_name (i := 3) sc_Table___init__.nd rfl (Or.inl rfl)) pgs_nil))) (pss_one (ps_for PassesOwn.never rfl (pi_listK K (pv 3)) (pg_name (i := 4) sc_Table___init__.nd rfl (Or.inl rfl)) (pss_one (ps_if (PW.pt (pw_or (pt_cmpR op_lt (pv 4) pe_int (nomark _)) (pw_or1 (pt_cmpR op_ge (pv 4) (pe_callB (call_lenK K) (by rfl) T.m_len PySem.boot_len (pa_cons (pv 1) pa_nil)) (nomark _))))) (pss_one ps_never) pss_nil)))))
      (pss_cons (ps_fld (pv 0) (pe_callB (call_lenK K) (by rfl) T.m_len PySem.boot_len (pa_cons (pv 1) pa_nil)) rfl)
      (pss_cons (ps_fld (pv 0) (pe_call (ok_masks_of T) (hr.mono (by decide)) (by rfl) T.g_masks_of T.F_masks_of.kp (b_masks_of T) .nil pass0 (pa_cons (pv 1) pa_nil)) rfl)
      (pss_one (ps_fld (pv 0) (pe_callTy (call_tupK K) (by rfl) T.m_tuple (by decide +kernel) (pa_cons (pe_lc2 (own := [("told", 5), ("out", 6)]) (vs1 := [6]) (by rfl) sc_Table___init__.nd (pi_range1 (by rfl) T.m_range (pa_cons (pe_callB (call_lenK K) (by rfl) T.m_len PySem.boot_len (pa_cons (pv 1) pa_nil)) pa_nil)) (blkOk_by (N := ["self", "rows", "at", "row", "word", "told", "out"]) (sc := defScope s_Table___init__) (by decide +kernel)) (by decide) (fun _ _ _ _ _ => (pg_name (i := 5) sc_Table___init__.nd rfl (Or.inl rfl))) (fun _ _ _ _ _ => pts_nil) (fun _ _ _ _ _ => (pi_listK K (pe_call (ok_bits T) (hr.mono (by decide)) (by rfl) T.g_bits T.F_bits.kp (b_bits T) .nil pass0 (pa_cons (pe_ix (ix_tupK K) (pe_fldK K (pv 0)) (pv 5) (fun _ _ => rfl)) pa_nil)))) (fun _ _ _ _ _ => (pg_name (i := 6) sc_Table___init__.nd rfl (Or.inl rfl))) (fun _ _ _ _ _ => pts_nil) (fun _ _ _ _ _ => (pe_tup (pa_cons (pv 5) (pa_cons (pv 6) pa_nil))))) pa_nil)) rfl)))))), ?_⟩
    -- check_size(len(rows))
    refine sq (s_doE e (ev_callD (v := .non) (ead_cons (Ev.d (ev_lenL (ed_var rfl hx) hlen)) ead_nil) fun vs G2 e2 ra => ?_) fun H1 e1 => ?_)
    · obtain ⟨y, rfl, hy⟩ := ra1 ra
      obtain rfl : y = V.int (rows.length : Int) := hy
      exact SpD.of ⟨rows.length, rfl, h1, h6, rfl⟩
    -- for at, row in enumerate(rows): for word in row
    refine sq (Mu.s_forE rows (rLn K) (e.trans e1) (ead_cons (ed_var rfl hx) ead_nil) (fun G1 i σ' H' => Ex G1 H' ∧ Ex H H' ∧ ∃ a b c d f, σ' = [some (.ref p), some x, a, b, c, d, f]) (fun G1 H2 g => ⟨g.i, e1.trans g.h, _, _, _, _, _, rfl⟩) (fun _ _ _ _ q => q.1) (fun G1 i σ' H' H'' q z => ⟨q.1.trans z, q.2.1.trans z, q.2.2⟩) ?_ ?_)
    · rintro G1 i row y σ' H' eG hi hy ⟨e2, e3, a, b, c, d, f, rfl⟩
      have hw := (hrow row (List.mem_of_getElem? hi)).2
      refine Mu.s_forL row nI e2 (ed_var rfl hy) (fun G2 i' σ' H' => Ex G2 H' ∧ Ex G1 H' ∧ Ex H H' ∧ ∃ a b c d f, σ' = [some (.ref p), some x, a, b, c, d, f]) (fun G2 H2 g => ⟨g.i, g.g.trans g.i, e3.trans g.h, _, _, _, _, _, rfl⟩) (fun _ _ _ _ q => q.1) ?_ ?_
      · rintro G2 i' w z σ' H2 eG2 hi' hz ⟨e4, e5, e6, a', b', c', d', f', rfl⟩
        obtain rfl : z = V.int (w : Int) := hz
        have hlt := hw w (List.mem_of_getElem? hi')
        refine s_ifE (Ex.refl H2) (et_or (et_cmp (ev_var rfl) ev_c) fun _ => et_cmp (ev_var rfl) (ev_lenL (ed_var rfl ((rLL K rows).mono (e.trans e6) hx)) hlen)) (fun hb H3 e7 => ?_) (fun hb H3 e7 => ?_)
        · exfalso
          rcases Bool.or_eq_true_iff.mp hb with q | q
          · have := of_decide_eq_true q; omega
          · have := of_decide_eq_true q; omega
        · exact nxt ⟨e4.trans e7, e5.trans e7, e6.trans e7, _, _, _, _, _, rfl⟩
      · rintro G2 σ' H2 eG2 ⟨e4, e5, e6, a', b', c', d', f', rfl⟩
        exact ⟨e5, e6, _, _, _, _, _, rfl⟩
    · rintro G1 σ' H2 eG ⟨e2, e3, a, b, c, d, f, rfl⟩
      have hp2 := e3 _ _ hp
      -- self.size = len(rows)
      refine sq (s_fld (e.trans e3) hp2 gp (Ev.d (ev_lenL (ed_var rfl hx) hlen)) (ev_var rfl) T.c_Table T.na_Table_size (by decide) fun y G2 H3 eg2 k2 i2 n2 gp2 hy hp3 => ?_)
      obtain rfl : y = V.int (rows.length : Int) := hy
      -- self.masks = masks_of(rows)
      refine sq (s_fld (r := rTn K (rows.map maskN)) i2 hp3 gp2 (ed_call (ead_cons (ed_var rfl ((rLL K rows).mono eg2 hx)) ead_nil) fun vs G3 e3 ra => ?_) (ev_var rfl) T.c_Table T.na_Table_masks (by show 1 < 1000; decide) fun y G3 H4 eg3 k3 i3 n3 gp3 hy hp4 => ?_)
      · obtain ⟨y, rfl, hy⟩ := ra1 ra
        exact SpD.of ⟨y, rows, rfl, hy, by omega, fun q hq w hw => by have := (hrow q hq).2 w hw; omega, rfl⟩
      obtain ⟨tm, hm⟩ : ∃ tm, y = V.ref tm := by
        obtain ⟨a, _, h, _⟩ := hy
        exact ⟨a, h⟩
      subst hm
      have wf : ∀ a, ((rows.map maskN).getD a 0) < 2 ^ 6 := fun a => by
        rw [List.getD_eq_getElem?_getD, List.getElem?_map]
        cases q : rows[a]? with
        | none => exact Nat.two_pow_pos 6
        | some r => exact maskN_lt fun w hw => by have := (hrow r (List.mem_of_getElem? q)).2 w hw; omega
      have eF : putF "masks" (V.ref tm) (putF "size" (V.int (rows.length : Int)) []) = [(("size" : Str), V.int (rows.length : Int)), ("masks", V.ref tm)] := by
        have c1 : ¬ (("size" : Str) = "masks") := by decide +kernel
        show (if ("size" : Str) = "masks" then _ else (("size" : Str), V.int (rows.length : Int)) :: putF "masks" (V.ref tm) []) = _
        rw [if_neg c1]; rfl
      have lk : (putF "masks" (V.ref tm) (putF "size" (V.int (rows.length : Int)) [])).lookup ("masks" : Str) = some (V.ref tm) := by
        have c1 : (("masks" : Str) == ("size" : Str)) = false := by decide +kernel
        rw [eF]
        simp [List.lookup, c1]
      -- self.cells = tuple([..])
      refine s_fldS i3 hp4 gp3 (r := rT K ((pairsN (rows.map maskN)).map (rP K))) (ed_is (ed_tupL (EvN.d (en_lc2R rows.length (fun a => bitsN ((rows.map maskN).getD a 0)) nI (fun a b => rP K (a, b)) (ea_cons (ev_lenL (ed_var rfl ((rLL K rows).mono ((eg2.trans eg3).trans (Ex.new gp3)) hx)) hlen) ea_nil) (by omega) (fun a _ => Nat.le_trans (bits_len (wf a)) (by decide)) (fun _ => rfl) (fun _ _ => rfl) ?_ ?_))) ?_) (fun y G4 hG hy => rP_off hG hy) (ev_var rfl) T.c_Table T.na_Table_cells (by rw [eF]; show 2 < 1000; decide) fun y G4 H5 eg4 k4 i4 n4 gp4 hy' hp5 => ?_
      · intro a0 G5 ha e5
        have hg5 : G5 p = some (.ins T.C_Table dx (putF "masks" (V.ref tm) (putF "size" (V.int (rows.length : Int)) []))) := e5 _ _ upd_same
        have hm5 : (rTn K (rows.map maskN)).p (.ref tm) G5 := (rTn K _).mono ((Ex.new gp3).trans e5) hy
        have hself : EvD (tFld K (tVar 0) "masks") ((wipe [some (V.ref p), some x, a, b, c, d, f] [5, 6]).set 5 (some (.int (a0 : Int)))) G5 (rTn K (rows.map maskN)) := fun H6 e6 Q q => ⟨.ref p, rfl, p, T.C_Table, dx, _, .ref tm, rfl, e6 _ _ hg5, T.c_Table, T.na_Table_masks, lk, q _ G5 H6 (Gr.refl e6) hm5⟩
        refine EvN.d (en_call (ead_cons (ed_ixT hself (ev_var rfl) (r := nI ((rows.map maskN).getD a0 0)) ?_) ead_nil) fun vs G6 e6 ra => ?_)
        · rw [List.getElem?_map, List.getD_eq_getElem?_getD, List.getElem?_eq_getElem (by rw [List.length_map]; exact ha)]; rfl
        · obtain ⟨z, rfl, hz⟩ := ra1 ra
          obtain rfl : z = V.int (((rows.map maskN).getD a0 0 : Nat) : Int) := hz
          exact SpN.of ⟨_, rfl, Nat.lt_of_lt_of_le (wf a0) (by decide), rfl⟩
      · intro a b' z G5 ha hb e5 hz
        obtain rfl : z = V.int (b' : Int) := hz
        exact ed_tup (ead_cons (Ev.d (ev_var rfl)) (ead_cons (Ev.d (ev_var rfl)) ead_nil)) (by show 2 ≤ 100000; decide)
      · unfold pairsN
        rw [List.map_flatMap, List.length_map]
        congr 2
        funext a
        rw [List.map_map]; rfl
      obtain ⟨tc, hc, -⟩ : ∃ tc, y = V.ref tc ∧ True := by
        obtain ⟨a, _, h, _⟩ := hy'
        exact ⟨a, h, trivial⟩
      subst hc
      refine k H5 G4 tm tc ((eg2.trans eg3).trans eg4) (fun a o z n => k4 a o (k3 a o (k2 a o (e3 a o z) n) n) n) i4 (fun a o z y => ?_) ?_ ((rTn K _).mono eg4 hy) hy'
      · have y2 := n2 a o (e3 a o z) y
        by_cases q : a = p
        · subst q; exact gp4
        · have y3 := n3 a o (k2 a o (e3 a o z) q) y2
          exact n4 a o (k3 a o (k2 a o (e3 a o z) q) q) y3
      · rw [hp5, eF]
        have c1 : ¬ (("size" : Str) = "cells") := by decide +kernel
        have c2 : ¬ (("masks" : Str) = "cells") := by decide +kernel
        show some (HO.ins _ _ (if ("size" : Str) = "cells" then _ else (("size" : Str), V.int (rows.length : Int)) :: (if ("masks" : Str) = "cells" then _ else (("masks" : Str), V.ref tm) :: putF "cells" (V.ref tc) []))) = _
        rw [if_neg c1, if_neg c2]; rfl
theorem sc_Table_rows : FnScope ["self", "mask"] ["self"] (defScope s_Table_rows) := ⟨rfl, rfl, rfl, by decide +kernel, rfl, by decide +kernel, by decide +kernel⟩
theorem b_Table_rows (T : Tx P K mg) : Binds K T.fd_Table_rows ["self"] [] := T.F_Table_rows.bindsN fun _ _ _ _ _ _ us hl => match us, hl with | [_], _ => rfl
def R_rows (K : PySem.W.Frag) (C : Addr) : List V → Hp → List Rp → Prop := fun vs G rs => ∃ (x : V) (m : List Nat), vs = [x] ∧ (rTab K C m).p x G ∧ m.length ≤ 1000 ∧ (∀ q ∈ m, q < 2 ^ 64) ∧ rs = (m.map bitsN).map (rLn K)
theorem ok_Table_rows (T : Tx P K mg) : FnOk P w K mg base CX0 2 T.f_Table_rows T.fd_Table_rows ["self"] (spN (R_rows K T.C_Table)) := by
  refine T.F_Table_rows.ok sc_Table_rows (fun vs H Q E h => ?_) (fun cdv A outer s H vs Q E hr h => ?_)
  · obtain ⟨G, rs, _, ⟨x, m, rfl, _⟩, _⟩ := h
    rfl
  · obtain ⟨G, rs, e, ⟨x, m, rfl, hx, h6, hw, rfl⟩, k⟩ := h
    refine ⟨_, PSs.nox (pss_one (ps_ret (pe_lc (own := [("mask", 1)]) (by rfl) sc_Table_rows.nd (pi_tupK K (pe_fldK K (pv 0))) (blkOk_by (N := ["self", "mask"]) (sc := defScope s_Table_rows) (by decide +kernel)) (fun _ _ _ _ _ => (pg_name (i := 1) sc_Table_rows.nd rfl (Or.inl rfl))) (fun _ _ _ _ _ => pts_nil) (fun _ _ _ _ _ => (pe_call (ok_bits T) (hr.mono (by decide)) (by rfl) T.g_bits T.F_bits.kp (b_bits T) .nil pass0 (pa_cons (pv 1) pa_nil)))))), ?_⟩
    refine s_retN e (en_is (en_lcT0 m nI (fun q => rLn K (bitsN q)) (ed_masks (ed_var rfl hx) T.c_Table T.na_Table_masks) (by omega) (fun _ => rfl) fun q y G1 hq e1 hy => EvN.d (en_call (ead_cons (ed_var rfl hy) ead_nil) fun vs G2 e2 ra => ?_)) (by rw [List.map_map]; rfl)) fun p ws G2 H2 g hp gp h2 ra => k p ws G2 H2 g hp gp h2 ra
    obtain ⟨u, rfl, hu⟩ := ra1 ra
    obtain rfl : u = V.int (q : Int) := hu
    exact SpN.of ⟨q, rfl, hw q hq, rfl⟩
theorem sc_table_of_masks : FnScope ["masks", "mask"] ["masks"] (defScope s_table_of_masks) := ⟨rfl, rfl, rfl, by decide +kernel, rfl, by decide +kernel, by decide +kernel⟩
theorem b_table_of_masks (T : Tx P K mg) : Binds K T.fd_table_of_masks ["masks"] [] := T.F_table_of_masks.bindsN fun _ _ _ _ _ _ us hl => match us, hl with | [_], _ => rfl
def R_table_of_masks (K : PySem.W.Frag) (C : Addr) : List V → Hp → Rp → Prop := fun vs G r => ∃ (x : V) (m : List Nat), vs = [x] ∧ ((rTn K m).p x G ∨ (rLn K m).p x G) ∧ Wf m.length m ∧ 1 ≤ m.length ∧ m.length ≤ 6 ∧ r = rTab K C m
theorem ok_table_of_masks (T : Tx P K mg) : FnOk P w K mg base CX0 5 T.f_table_of_masks T.fd_table_of_masks ["masks"] (spD (R_table_of_masks K T.C_Table)) := by
  refine T.F_table_of_masks.ok sc_table_of_masks (fun vs H Q E h => ?_) (fun cdv A outer s H vs Q E hr h => ?_)
  · obtain ⟨G, r, _, ⟨x, m, rfl, _⟩, _⟩ := h
    rfl
  · obtain ⟨G, r, e, ⟨x, m, rfl, hx, hw, h1, h6, rfl⟩, k⟩ := h
    have eqm : (m.map bitsN).map maskN = m := by
      rw [List.map_map]
      exact (List.map_congr_left fun a _ => maskN_bits a).trans (List.map_id _)
    have l6 : (2 : Nat) ^ m.length ≤ 2 ^ 6 := Nat.pow_le_pow_right (by decide) h6
    have cond : ∀ r ∈ m.map bitsN, r.length ≤ 100 ∧ ∀ w ∈ r, w < (m.map bitsN).length := fun r hr => by
      obtain ⟨a, ha, rfl⟩ := List.mem_map.mp hr
      refine ⟨Nat.le_trans (bits_len (hw.lt a ha)) (by omega), fun w hb => ?_⟩
      rw [List.length_map]
      exact bit_lt (hw.lt a ha) (mem_bits.mp hb)
    have elt : ∀ (q : Nat) (y : V) (G1 : Hp), q ∈ m → (nI q).p y G1 → EvD (tCall (spN R_bits) [] E0 (tCons (tVar 1) tNil)) ((wipe [some x, none] [1]).set 1 (some y)) G1 (rLn K (bitsN q)) := fun q y G1 hq hy =>
      EvN.d (en_call (ead_cons (ed_var rfl hy) ead_nil) fun vs G2 e2 ra => by
        obtain ⟨u, rfl, hu⟩ := ra1 ra
        obtain rfl : u = V.int (q : Int) := hu
        have := hw.lt q hq
        exact SpN.of ⟨q, rfl, by omega, rfl⟩)
    have eql : m.map (fun q => rLn K (bitsN q)) = (m.map bitsN).map (rLn K) := by rw [List.map_map]; rfl
    rcases hx with hx | hx
    · refine ⟨_, PSs.nox (pss_one (ps_ret (pe_make T.mk_Table (ok_Table___init__ T) (hr.mono (by decide)) (by rfl) T.g_Table (b_Table___init__ T) .nil pass0 (pa_cons (pe_lc (own := [("mask", 1)]) (by rfl) sc_table_of_masks.nd (pi_tupK K (pv 0)) (blkOk_by (N := ["masks", "mask"]) (sc := defScope s_table_of_masks) (by decide +kernel)) (fun _ _ _ _ _ => (pg_name (i := 1) sc_table_of_masks.nd rfl (Or.inl rfl))) (fun _ _ _ _ _ => pts_nil) (fun _ _ _ _ _ => (pe_call (ok_bits T) (hr.mono (by decide)) (by rfl) T.g_bits T.F_bits.kp (b_bits T) .nil pass0 (pa_cons (pv 1) pa_nil)))) pa_nil)))), ?_⟩
      refine s_retD e (ed_is (ed_tab (rows := m.map bitsN) (ed_is (EvN.d (en_lcT0 m nI (fun q => rLn K (bitsN q)) (ed_var rfl hx) (by omega) (fun _ => rfl) fun q y G1 hq e1 hy => elt q y G1 hq hy)) (by rw [eql]; rfl)) (by rw [List.length_map]; exact h1) (by rw [List.length_map]; exact h6) cond) (by rw [eqm])) fun v G2 H2 g hv => k v G2 H2 g hv
    · refine ⟨_, PSs.nox (pss_one (ps_ret (pe_make T.mk_Table (ok_Table___init__ T) (hr.mono (by decide)) (by rfl) T.g_Table (b_Table___init__ T) .nil pass0 (pa_cons (pe_lc (own := [("mask", 1)]) (by rfl) sc_table_of_masks.nd (pi_listK K (pv 0)) (blkOk_by (N := ["masks", "mask"]) (sc := defScope s_table_of_masks) (by decide +kernel)) (fun _ _ _ _ _ => (pg_name (i := 1) sc_table_of_masks.nd rfl (Or.inl rfl))) (fun _ _ _ _ _ => pts_nil) (fun _ _ _ _ _ => (pe_call (ok_bits T) (hr.mono (by decide)) (by rfl) T.g_bits T.F_bits.kp (b_bits T) .nil pass0 (pa_cons (pv 1) pa_nil)))) pa_nil)))), ?_⟩
      refine s_retD e (ed_is (ed_tab (rows := m.map bitsN) (ed_is (EvN.d (en_lcL0 m nI (fun q => rLn K (bitsN q)) (ed_var rfl hx) (by omega) (fun _ => rfl) fun q y G1 hq e1 hy => elt q y G1 hq hy)) (by rw [eql]; rfl)) (by rw [List.length_map]; exact h1) (by rw [List.length_map]; exact h6) cond) (by rw [eqm])) fun v G2 H2 g hv => k v G2 H2 g hv

theorem c_table_of_masks (T : Tx P K mg) {M : List Re} {κ : KV} {m : List Nat} {n : Nat} (wm : Wf n m) (h1 : 1 ≤ n) (h6 : n ≤ 6) (k : κ (rTab K T.C_Table m) M) : CM (spD (R_table_of_masks K T.C_Table)) [rTn K m] M κ := cm (fun vs G ra => by
  obtain ⟨x, rfl, hx⟩ := ra1 ra
  exact SpD.of ⟨x, m, rfl, .inl hx, wm.len.symm ▸ wm, by rw [wm.len]; exact h1, by rw [wm.len]; exact h6, rfl⟩) k
theorem c_table_of_masksL (T : Tx P K mg) {M : List Re} {κ : KV} {m : List Nat} {n : Nat} (wm : Wf n m) (h1 : 1 ≤ n) (h6 : n ≤ 6) (k : κ (rTab K T.C_Table m) M) : CM (spD (R_table_of_masks K T.C_Table)) [rLn K m] M κ := cm (fun vs G ra => by
  obtain ⟨x, rfl, hx⟩ := ra1 ra
  exact SpD.of ⟨x, m, rfl, .inr hx, wm.len.symm ▸ wm, by rw [wm.len]; exact h1, by rw [wm.len]; exact h6, rfl⟩) k
local macro_rules | `(tactic| wtm_at "c") => `(tactic| refine c_table_of_masks _ (by assumption) (by wtm_at "s") (by wtm_at "s") ?_)
local macro_rules | `(tactic| wtm_at "c") => `(tactic| refine c_table_of_masksL _ (by assumption) (by wtm_at "s") (by wtm_at "s") ?_)
theorem sc_identity_masks : FnScope ["size", "word"] ["size"] (defScope s_identity_masks) := ⟨rfl, rfl, rfl, by decide +kernel, rfl, by decide +kernel, by decide +kernel⟩
theorem b_identity_masks (T : Tx P K mg) : Binds K T.fd_identity_masks ["size"] [] := T.F_identity_masks.bindsN fun _ _ _ _ _ _ us hl => match us, hl with | [_], _ => rfl
def idN (n : Nat) : List Nat := (List.range n).map fun w => 2 ^ w
theorem idN_wf (n : Nat) : Wf n (idN n) := ⟨by unfold idN; rw [List.length_map, List.length_range], fun x hx => by
  obtain ⟨w, hw, rfl⟩ := List.mem_map.mp hx
  exact Nat.pow_lt_pow_right (by decide) (List.mem_range.mp hw)⟩

def R_identity_masks (T : Tx P K mg) : List V → Hp → Rp → Prop := fun vs G r => ∃ (n : Nat), RA G vs [nI n] ∧ (n ≤ 60) ∧ r = rTn K (idN n)
theorem ok_identity_masks (T : Tx P K mg) : FnOk P w K mg base CX0 1 T.f_identity_masks T.fd_identity_masks ["size"] (spD (R_identity_masks T)) := by
  refine T.F_identity_masks.ok sc_identity_masks (fun vs H Q E h => ?_) (fun cdv A outer s H vs Q E hr h => ?_)
  · obtain ⟨G, r, _, ⟨n, ra, _⟩, _⟩ := h
    exact ra.len
  · obtain ⟨G, r, e, ⟨n, ra, q0, rfl⟩, k⟩ := h
    refine ⟨_, PSs.nox (pss_one (ps_ret (pe_callTy (call_tupK K) (by rfl) T.m_tuple (by decide +kernel) (pa_cons (pe_lc (own := [("word", 1)]) (by rfl) sc_identity_masks.nd (pi_range1 (by rfl) T.m_range (pa_cons (pv 0) pa_nil)) (blkOk_by (N := ["size", "word"]) (sc := defScope s_identity_masks) (by decide +kernel)) (fun _ _ _ _ _ => (pg_name (i := 1) sc_identity_masks.nd rfl (Or.inl rfl))) (fun _ _ _ _ _ => pts_nil) (fun _ _ _ _ _ => (pe_op op_shl pe_int (pv 1)))) pa_nil)))), ?_⟩
    refine run_D (W := fun _ _ _ _ => False) (Γ := [some (nI n), none]) ?_ e (En.start (k := 1) _ (rs := [nI n]) ra (by rw [ra.len]; rfl)) k
    clear ra e k
    wtm_at "w"
    show rT K _ = rTn K _
    unfold idN rTn
    rw [List.map_map]
    rfl
theorem c_identity_masks (T : Tx P K mg) {M : List Re} {κ : KV} {n : Nat} (q0 : n ≤ 60) (k : κ (rTn K (idN n)) M) : CM (spD (R_identity_masks T)) [nI n] M κ := cm (fun vs G ra => SpD.of ⟨n, ra, q0, rfl⟩) k
local macro_rules | `(tactic| wtm_at "c") => `(tactic| refine c_identity_masks _ (by wtm_at "s") ?_)
theorem sc_power : FnScope ["masks", "count", "result", "square"] ["masks", "count"] (defScope s_power) := ⟨rfl, rfl, rfl, by decide +kernel, rfl, by decide +kernel, by decide +kernel⟩
theorem b_power (T : Tx P K mg) : Binds K T.fd_power ["masks", "count"] [] := T.F_power.bindsN fun _ _ _ _ _ _ us hl => match us, hl with | [_, _], _ => rfl
theorem idN_bitx {n a b : Nat} (h : a < n) : bitOf (idN n) a b = true ↔ a = b := by
  unfold bitOf idN
  rw [getD_range_map h, Nat.testBit_two_pow, decide_eq_true_iff]
theorem prodN_idr {n : Nat} {m : List Nat} (w : Wf n m) : prodN m (idN n) = m := Wf.ext (prodN_wf w (idN_wf n)) w fun a b ha hb => by
  rw [Bool.eq_iff_iff, prodN_bit w (idN_wf n) ha]
  constructor
  · rintro ⟨c, hc, h1, h2⟩
    rw [← (idN_bitx hc).mp h2]; exact h1
  · intro h
    exact ⟨b, hb, h, (idN_bitx hb).mpr rfl⟩
theorem prodN_idl {n : Nat} {m : List Nat} (w : Wf n m) : prodN (idN n) m = m := Wf.ext (prodN_wf (idN_wf n) w) w fun a b ha hb => by
  rw [Bool.eq_iff_iff, prodN_bit (idN_wf n) w ha]
  constructor
  · rintro ⟨c, hc, h1, h2⟩
    rw [(idN_bitx ha).mp h1]; exact h2
  · intro h
    exact ⟨a, ha, (idN_bitx ha).mpr rfl, h⟩
theorem prodN_assoc {n : Nat} {x y z : List Nat} (wx : Wf n x) (wy : Wf n y) (wz : Wf n z) : prodN (prodN x y) z = prodN x (prodN y z) := Wf.ext (prodN_wf (prodN_wf wx wy) wz) (prodN_wf wx (prodN_wf wy wz)) fun a b ha hb => by
  rw [Bool.eq_iff_iff, prodN_bit (prodN_wf wx wy) wz ha, prodN_bit wx (prodN_wf wy wz) ha]
  constructor
  · rintro ⟨c, hc, h1, h2⟩
    obtain ⟨d, hd, h3, h4⟩ := (prodN_bit wx wy ha).mp h1
    exact ⟨d, hd, h3, (prodN_bit wy wz hd).mpr ⟨c, hc, h4, h2⟩⟩
  · rintro ⟨d, hd, h3, h4⟩
    obtain ⟨c, hc, h5, h6⟩ := (prodN_bit wy wz hd).mp h4
    exact ⟨c, hc, (prodN_bit wx wy ha).mpr ⟨d, hd, h3, h5⟩, h6⟩
def powN (n : Nat) (m : List Nat) : Nat → List Nat
  | 0 => idN n
  | k + 1 => prodN (powN n m k) m
section
variable {n : Nat} {m s r : List Nat}
theorem powN_wf (w : Wf n m) : ∀ k, Wf n (powN n m k)
  | 0 => idN_wf n
  | k + 1 => prodN_wf (powN_wf w k) w
theorem powN_left (w : Wf n m) : ∀ k, powN n m (k + 1) = prodN m (powN n m k)
  | 0 => by
    show prodN (idN n) m = prodN m (idN n)
    rw [prodN_idl w, prodN_idr w]
  | k + 1 => by
    show prodN (powN n m (k + 1)) m = prodN m (prodN (powN n m k) m)
    rw [powN_left w k, prodN_assoc w (powN_wf w k) w]
theorem powN_sq (w : Wf n m) : ∀ k, powN n (prodN m m) k = powN n m (2 * k)
  | 0 => rfl
  | k + 1 => by
    show prodN (powN n (prodN m m) k) (prodN m m) = powN n m (2 * k + 1 + 1)
    rw [powN_sq w k]
    show _ = prodN (prodN (powN n m (2 * k)) m) m
    rw [prodN_assoc (powN_wf w _) w w]
/-- one turn of power -/
theorem pow_turn (wr : Wf n r) (ws : Wf n s) (c : Nat) : prodN (if c % 2 = 1 then prodN r s else r) (powN n (prodN s s) (c / 2)) = prodN r (powN n s c) := by
  rw [powN_sq ws]
  by_cases h : c % 2 = 1
  · rw [if_pos h, prodN_assoc wr ws (powN_wf ws _), ← powN_left ws]
    congr 2
    omega
  · rw [if_neg h]
    congr 2
    omega
end
/-! walks -/
def Wk (E : Nat → Nat → Prop) (k a b : Nat) : Prop := ∃ f : Nat → Nat, f 0 = a ∧ f k = b ∧ ∀ i, i < k → E (f i) (f (i + 1))
section
variable {E : Nat → Nat → Prop} {k l a b c n : Nat}
theorem Wk.cat (h : Wk E k a b) (g : Wk E l b c) : Wk E (k + l) a c := by
  obtain ⟨f, f0, fk, hf⟩ := h
  obtain ⟨g, g0, gl, hg⟩ := g
  refine ⟨fun i => if i ≤ k then f i else g (i - k), ?_, ?_, fun i hi => ?_⟩
  · dsimp only
    rw [if_pos (Nat.zero_le _), f0]
  · dsimp only
    by_cases h : l = 0
    · subst h
      rw [if_pos (show k + 0 ≤ k from Nat.le_refl _)]
      show f k = c
      rw [fk, ← gl, g0]
    · rw [if_neg (by omega), show k + l - k = l by omega, gl]
  · dsimp only
    by_cases h1 : i + 1 ≤ k
    · rw [if_pos (by omega), if_pos h1]; exact hf i (by omega)
    · by_cases h2 : i ≤ k
      · have e : i = k := by omega
        rw [if_pos h2, if_neg h1, show i + 1 - k = 0 + 1 by omega, e, fk, ← g0]; exact hg 0 (by omega)
      · rw [if_neg h2, if_neg h1, show i + 1 - k = (i - k) + 1 by omega]; exact hg (i - k) (by omega)
theorem Wk.part {f : Nat → Nat} (hf : ∀ i, i < k → E (f i) (f (i + 1))) {i j : Nat} (h : i ≤ j) (hj : j ≤ k) : Wk E (j - i) (f i) (f j) := ⟨fun x => f (i + x), rfl, by show f (i + (j - i)) = f j; rw [show i + (j - i) = j by omega], fun x hx => hf (i + x) (by omega)⟩
theorem Wk.pump (h : Wk E c a a) : ∀ t, Wk E (c * t) a a
  | 0 => ⟨fun _ => a, rfl, rfl, fun i hi => absurd hi (by omega)⟩
  | t + 1 => by
    rw [Nat.mul_add, Nat.mul_one]
    exact (Wk.pump h t).cat h
theorem pig : ∀ (N : Nat) (f : Nat → Nat), (∀ i, i ≤ N → f i < N) → ∃ i j, i < j ∧ j ≤ N ∧ f i = f j
  | 0, f, h => absurd (h 0 (Nat.le_refl 0)) (by omega)
  | N + 1, f, h => by
    by_cases c : ∃ i, i ≤ N ∧ f i = f (N + 1)
    · obtain ⟨i, hi, e⟩ := c
      exact ⟨i, N + 1, by omega, Nat.le_refl _, e⟩
    · have hne : ∀ i, i ≤ N → f i ≠ f (N + 1) := fun i hi e => c ⟨i, hi, e⟩
      obtain ⟨i, j, h1, h2, h3⟩ := pig N (fun i => if f i > f (N + 1) then f i - 1 else f i) fun i hi => by
        have h1 := h i (by omega)
        have h2 := h (N + 1) (Nat.le_refl _)
        have h3 := hne i hi
        try dsimp only
        split <;> omega
      refine ⟨i, j, h1, by omega, ?_⟩
      have h4 := hne i (by omega)
      have h5 := hne j h2
      try dsimp only at h3
      split at h3 <;> split at h3 <;> omega
theorem wk_in (hE : ∀ x y, E x y → x < n ∧ y < n) {f : Nat → Nat} (h0 : f 0 < n) (hf : ∀ i, i < k → E (f i) (f (i + 1))) : ∀ i, i ≤ k → f i < n
  | 0, _ => h0
  | i + 1, h => (hE _ _ (hf i (by omega))).2
theorem wk_red (hE : ∀ x y, E x y → x < n ∧ y < n) (hc : 0 < c) : ∀ (k a b : Nat), a < n → Wk E k a b → ∃ k', k' < n * c ∧ k' % c = k % c ∧ Wk E k' a b := by
  intro k
  induction k using Nat.strongRecOn with
  | ind k ih =>
    intro a b ha h
    by_cases hk : k < n * c
    · exact ⟨k, hk, rfl, h⟩
    · obtain ⟨f, f0, fk, hf⟩ := id h
      have hv := wk_in hE (by rw [f0]; exact ha) hf
      obtain ⟨i, j, hij, hj, e⟩ := pig (n * c) (fun i => c * f i + i % c) fun i hi => by
        have h1 := hv i (by omega)
        have h2 := Nat.mod_lt i hc
        have h3 : c * (f i + 1) ≤ c * n := Nat.mul_le_mul_left c (by omega)
        rw [Nat.mul_add, Nat.mul_one, Nat.mul_comm c n] at h3
        try dsimp only
        omega
      try dsimp only at e
      have e1 : f i = f j := by
        have := congrArg (· / c) e
        try dsimp only at this
        rw [Nat.mul_add_div hc, Nat.mul_add_div hc, Nat.div_eq_of_lt (Nat.mod_lt i hc), Nat.div_eq_of_lt (Nat.mod_lt j hc)] at this
        exact this
      have e2 : i % c = j % c := by
        rw [e1] at e
        omega
      have w1 := Wk.part hf (Nat.zero_le i) (show i ≤ k by omega)
      have w2 := Wk.part hf (show j ≤ k by omega) (Nat.le_refl k)
      rw [← e1] at w2
      have w3 := w1.cat w2
      rw [f0, fk, Nat.sub_zero] at w3
      obtain ⟨k', h1, h2, h3⟩ := ih (i + (k - j)) (by omega) a b ha w3
      refine ⟨k', h1, ?_, h3⟩
      rw [h2, Nat.add_mod, e2, ← Nat.add_mod]
      congr 1
      omega
theorem wk_per (hE : ∀ x y, E x y → x < n ∧ y < n) (hn : n ≤ 6) {k2 : Nat} (ha : a < n) (h : Wk E k a b) (hk : 72 ≤ k) (hk2 : 72 ≤ k2) (he : k2 % 60 = k % 60) : Wk E k2 a b := by
  obtain ⟨f, f0, fk, hf⟩ := h
  have hv := wk_in hE (by rw [f0]; exact ha) hf
  obtain ⟨i, j, hij, hj, e⟩ := pig n f fun i hi => hv i (by omega)
  have c1 := Wk.part hf (Nat.le_of_lt hij) (show j ≤ k by omega)
  rw [← e] at c1
  have w1 := Wk.part hf (Nat.zero_le i) (show i ≤ k by omega)
  have w2 := Wk.part hf (show i ≤ k by omega) (Nat.le_refl k)
  rw [f0, Nat.sub_zero] at w1
  rw [fk] at w2
  obtain ⟨c, hc⟩ : ∃ c, c = j - i := ⟨_, rfl⟩
  rw [← hc] at c1
  have hc0 : 0 < c := by omega
  have hc6 : c ≤ 6 := by omega
  obtain ⟨p, hp, hpm, wp⟩ := wk_red hE hc0 _ _ _ ha w1
  obtain ⟨q, hq, hqm, wq⟩ := wk_red hE hc0 _ _ _ (hv i (by omega)) w2
  have hnc : n * c ≤ 6 * c := Nat.mul_le_mul_right c hn
  obtain ⟨t, ht⟩ : ∃ t, k2 = p + c * t + q := by
    refine ⟨(k2 - p - q) / c, ?_⟩
    rcases (by omega : c = 1 ∨ c = 2 ∨ c = 3 ∨ c = 4 ∨ c = 5 ∨ c = 6) with z | z | z | z | z | z <;> (subst z; omega)
  rw [ht]
  exact (wp.cat (Wk.pump c1 t)).cat wq
end
section
variable {n : Nat} {m : List Nat}
theorem pow_iff (w : Wf n m) : ∀ {k a b : Nat}, a < n → (bitOf (powN n m k) a b = true ↔ Wk (fun x y => bitOf m x y = true) k a b)
  | 0, a, b, ha => by
    show bitOf (idN n) a b = true ↔ _
    rw [idN_bitx ha]
    constructor
    · intro h; exact ⟨fun _ => a, rfl, h, fun i hi => absurd hi (by omega)⟩
    · rintro ⟨f, f0, fk, _⟩; rw [← f0, ← fk]
  | k + 1, a, b, ha => by
    show bitOf (prodN (powN n m k) m) a b = true ↔ _
    rw [prodN_bit (powN_wf w k) w ha]
    constructor
    · rintro ⟨c, hc, h1, h2⟩
      refine ((pow_iff w ha).mp h1).cat (l := 1) ⟨fun i => if i = 0 then c else b, rfl, rfl, fun i hi => ?_⟩
      obtain rfl : i = 0 := by omega
      exact h2
    · rintro ⟨f, f0, fk, hf⟩
      have h1 := hf k (by omega)
      rw [fk] at h1
      exact ⟨f k, (w.bit h1).1, (pow_iff w ha).mpr ⟨f, f0, rfl, fun i hi => hf i (by omega)⟩, h1⟩
theorem pow_rep (w : Wf n m) (h6 : n ≤ 6) {k k2 : Nat} (hk : 72 ≤ k) (hk2 : 72 ≤ k2) (he : k2 % 60 = k % 60) : powN n m k = powN n m k2 := Wf.ext (powN_wf w k) (powN_wf w k2) fun a b ha hb => by
  rw [Bool.eq_iff_iff, pow_iff w ha, pow_iff w ha]
  exact ⟨fun h => wk_per (fun x y h => w.bit h) h6 ha h hk hk2 he, fun h => wk_per (fun x y h => w.bit h) h6 ha h hk2 hk he.symm⟩
theorem pow_shift {i j : Nat} (h : powN n m i = powN n m j) : ∀ d, powN n m (i + d) = powN n m (j + d)
  | 0 => h
  | d + 1 => by
    show prodN (powN n m (i + d)) m = prodN (powN n m (j + d)) m
    rw [pow_shift h d]
theorem pow_per {i j : Nat} (h : powN n m i = powN n m j) (hij : i < j) (c : Nat) (hc : i ≤ c) : powN n m c = powN n m (i + (c - i) % (j - i)) := by
  induction c using Nat.strongRecOn with
  | ind c ih =>
    by_cases h1 : c < j
    · rw [Nat.mod_eq_of_lt (by omega), show i + (c - i) = c by omega]
    · have h2 := pow_shift h (c - j)
      rw [show j + (c - j) = c by omega] at h2
      rw [← h2, ih (i + (c - j)) (by omega) (by omega)]
      congr 2
      rw [show c - i = (i + (c - j) - i) + (j - i) by omega, Nat.add_mod_right]
end
/-! dicts keyed by the text of rows -/
def kT (m : List Nat) : Key := .inr (txS (m.map bitsN))
def kvT {α : Type} (ρ : α → Rp) (L : List (List Nat × α)) : List (Key × Rp) := L.map fun e => (kT e.1, ρ e.2)
section
variable {α : Type} {ρ : α → Rp} {L : List (List Nat × α)} {n : Nat} {q x y : List Nat}
theorem smL (w : Wf n x) (h6 : n ≤ 6) : SmL (x.map bitsN) := fun r hr z hz => by
  obtain ⟨v, hv, rfl⟩ := List.mem_map.mp hr
  have := bit_lt (w.lt v hv) (mem_bits.mp hz)
  omega
theorem rows6 (w : Wf n x) (h6 : n ≤ 6) : ∀ r ∈ x.map bitsN, r.length ≤ 6 := fun r hr => by
  obtain ⟨v, hv, rfl⟩ := List.mem_map.mp hr
  have := bits_len (w.lt v hv)
  omega
theorem bitsI {f w : List Nat} (h : f.map bitsN = w.map bitsN) : f = w := by
  have := congrArg (List.map maskN) h
  rwa [masks_bits, masks_bits] at this
theorem kT_inj (wx : Wf n x) (wy : Wf n y) (h6 : n ≤ 6) : kT x = kT y ↔ x = y := ⟨fun h => by
  unfold kT at h
  injection h with h
  exact bitsI (txS_inj (smL wx h6) (smL wy h6) h), fun h => by rw [h]⟩
theorem val_kvT (hL : ∀ e ∈ L, Wf n e.1) (wq : Wf n q) (h6 : n ≤ 6) : valA (kvT ρ L) (kT q) = (L.find? fun e => decide (e.1 = q)).map fun e => ρ e.2 := by
  unfold valA kvT
  induction L with
  | nil => rfl
  | cons e L ih =>
    rw [List.map_cons, List.find?_cons, List.find?_cons]
    dsimp only
    have h : decide (kT e.1 = kT q) = decide (e.1 = q) := dec_iff (kT_inj (hL e List.mem_cons_self) wq h6)
    rw [h]
    cases decide (e.1 = q)
    · exact ih fun z hz => hL z (List.mem_cons_of_mem _ hz)
    · rfl
theorem put_kvT {a : α} (hL : ∀ e ∈ L, Wf n e.1) (wq : Wf n q) (h6 : n ≤ 6) (h : ∀ e ∈ L, e.1 ≠ q) : putA (kvT ρ L) (kT q) (ρ a) = kvT ρ (L ++ [(q, a)]) := by
  unfold putA
  rw [if_neg]
  · unfold kvT
    rw [List.map_append]
    rfl
  · rw [List.any_eq_true]
    rintro ⟨kv, hk, hd⟩
    unfold kvT at hk
    obtain ⟨e, he, rfl⟩ := List.mem_map.mp hk
    exact h e he ((kT_inj (hL e he) wq h6).mp (of_decide_eq_true hd))
end

def R_power (T : Tx P K mg) : List V → Hp → Rp → Prop := fun vs G r => ∃ (n c : Nat) (m : List Nat), RA G vs [rTn K m, nI c] ∧ (Wf n m) ∧ (n ≤ 6) ∧ r = rTn K (powN n m c)
theorem ok_power (T : Tx P K mg) : FnOk P w K mg base CX0 3 T.f_power T.fd_power ["masks", "count"] (spD (R_power T)) := by
  refine T.F_power.ok sc_power (fun vs H Q E h => ?_) (fun cdv A outer s H vs Q E hr h => ?_)
  · obtain ⟨G, r, _, ⟨n, c, m, ra, _⟩, _⟩ := h
    exact ra.len
  · obtain ⟨G, r, e, ⟨n, c, m, ra, q0, q1, rfl⟩, k⟩ := h
    refine ⟨_, PSs.nox (pss_cons (ps_set (i := 2) sc_power.nd rfl (Or.inl rfl) (pe_call (ok_identity_masks T) (hr.mono (by decide)) (by rfl) T.g_identity_masks T.F_identity_masks.kp (b_identity_masks T) .nil pass0 (pa_cons (pe_callB (call_lenK K) (by rfl) T.m_len PySem.boot_len (pa_cons (pv 0) pa_nil)) pa_nil)))
      (pss_cons (ps_set (i := 3) sc_power.nd rfl (Or.inl rfl) (pv 0))
      (pss_cons (ps_while PassesOwn.never (pt_cmpR op_gt (pv 1) pe_int (nomark _)) (pss_cons (ps_if (pt_cmpR op_eq (pe_op op_and (pv 1) pe_int) pe_int (nomark _)) (pss_one (ps_set (i := 2) sc_power.nd rfl (Or.inl rfl) (pe_call (ok_product T) (hr.mono (by decide)) (by rfl) T.g_product T.F_product.kp (b_product T) .nil pass0 (pa_cons (pv 2) (pa_cons (pv 3) pa_nil))))) pss_nil)
      (pss_cons (ps_set (i := 3) sc_power.nd rfl (Or.inl rfl) (pe_call (ok_product T) (hr.mono (by decide)) (by rfl) T.g_product T.F_product.kp (b_product T) .nil pass0 (pa_cons (pv 3) (pa_cons (pv 3) pa_nil))))
      (pss_one (ps_set (i := 1) sc_power.nd rfl (Or.inl rfl) (pe_op op_shr (pv 1) pe_int))))))
      (pss_one (ps_ret (pv 2)))))), ?_⟩
    refine run_D (W := fun _ _ _ _ => False) (Γ := [some (rTn K m), some (nI c), none, none]) ?_ e (En.start (k := 2) _ (rs := [rTn K m, nI c]) ra (by rw [ra.len]; rfl)) k
    clear ra e k
    have l_m := q0.len
    have lm := q0.len
    refine w_seq (ws_set ?_)
    wtm_at "e"
    rw [lm]
    try dsimp only [List.set]
    refine w_seq (ws_set ?_)
    wtm_at "e"
    try dsimp only [List.set]
    refine w_seq (w_while (α := List Nat × List Nat × Nat) (fun k z => k = z.2.2 ∧ Wf n z.1 ∧ Wf n z.2.1 ∧ prodN z.1 (powN n z.2.1 z.2.2) = powN n m c) (fun z => [some (rTn K m), some (nI z.2.2), some (rTn K z.1), some (rTn K z.2.1)]) (fun _ => []) c (idN n, m, c) ⟨rfl, idN_wf n, q0, prodN_idl (powN_wf q0 c)⟩ (by wtm_at "sub") rfl fun d z hz => ?_)
    obtain ⟨r, s, d0⟩ := z
    obtain ⟨rfl, wr, ws, hp⟩ := hz
    dsimp only at wr ws hp ⊢
    have lr := wr.len
    have ls := ws.len
    refine ⟨decide (0 < d), EXT.of (t_T (x_gtN (x_v rfl) (x_cn 0))), fun hb => ?_, fun hb => ?_⟩
    · have hd : 0 < d := of_decide_eq_true hb
      have hturn := pow_turn wr ws d
      refine w_cut (fun r2 : List Nat => r2 = if d % 2 = 1 then prodN r s else r) (fun r2 => [some (rTn K m), some (nI d), some (rTn K r2), some (rTn K s)]) ?_ fun r2 hr2 => ?_
      · apply w_if (b := decide (d % 2 = 1))
        · exact t_is (t_T (x_eqN (x_bandN (x_v rfl) (x_cn 1)) (x_cn 1))) (by rw [Nat.and_one_is_mod])
        · intro h
          refine ws_set ?_
          wtm_at "e"
          exact ⟨prodN r s, (if_pos (of_decide_eq_true h)).symm, by wtm_at "sub", rfl⟩
        · intro h
          exact w_nx ⟨r, (if_neg (of_decide_eq_false h)).symm, by wtm_at "sub", rfl⟩
      have wr2 : Wf n r2 := by
        rw [hr2]
        split
        · exact prodN_wf wr ws
        · exact wr
      rw [← hr2] at hturn
      clear hr2
      try dsimp only
      refine w_seq (ws_set ?_)
      wtm_at "e"
      try dsimp only [List.set]
      refine ws_set (e_x (x_is (x_shrN (m := d) (n := 1) (x_v rfl) (x_cn 1)) (show _ = nI (d / 2) by rw [Nat.pow_one])) ?_)
      exact ⟨d / 2, (r2, prodN s s, d / 2), by omega, ⟨rfl, wr2, prodN_wf ws ws, hturn.trans hp⟩, by wtm_at "sub", rfl⟩
    · have hd : d = 0 := by have := of_decide_eq_false hb; omega
      subst hd
      refine ws_ret (e_v rfl ?_)
      rw [← hp]
      show rTn K r = rTn K (prodN r (idN n))
      rw [prodN_idr wr]
theorem c_power (T : Tx P K mg) {M : List Re} {κ : KV} {n c : Nat} {m : List Nat} (q0 : Wf n m) (q1 : n ≤ 6) (k : κ (rTn K (powN n m c)) M) : CM (spD (R_power T)) [rTn K m, nI c] M κ := cm (fun vs G ra => SpD.of ⟨n, c, m, ra, q0, q1, rfl⟩) k
local macro_rules | `(tactic| wtm_at "c") => `(tactic| refine c_power _ (by wtm_at "s") (by wtm_at "s") ?_)
theorem sc_BadCount___init__ : FsScope ["self", "count"] ["self", "count"] (defScope s_BadCount___init__) := ⟨rfl, rfl, rfl, by decide +kernel, rfl, by decide +kernel, by decide +kernel, by decide +kernel, rfl, rfl⟩
theorem b_BadCount___init__ (T : Tx P K mg) : Binds K T.fd_BadCount___init__ ["self", "count"] [] := by
  obtain ⟨oc, od, kV, doc, pm, an, ct, osl, e, lk⟩ := T.S_BadCount___init__.fn
  rw [e]
  exact Binds.all fun us hl => match us, hl with | [_, _], _ => rfl
theorem ok_BadCount___init__ (T : Tx P K mg) : FnOk P w K mg base CX0 1 T.f_BadCount___init__ T.fd_BadCount___init__ ["self", "count"] (spErr T.C_BadCount ["count"]) := by
  refine T.S_BadCount___init__.ok sc_BadCount___init__ (fun vs H Q E h => ?_) (fun A outer s H vs Q E hr h => ?_)
  · obtain ⟨a, xs, rfl, hl, _⟩ := h
    show xs.length + 1 = 2
    rw [hl]; rfl
  · obtain ⟨a, xs, rfl, hl, ha, k⟩ := h
    match xs, hl with
    | [x0], _ =>
    refine ⟨_, psa_expr (pea_supInit T.S_BadCount___init__ sc_BadCount___init__ T.pf T.m_super rfl rfl rfl (pa_cons pe_str pa_nil)) (pss_one (ps_ost (pv 0) (pv 1))), ?_⟩
    refine ⟨a, T.C_BadCount, rfl, ha, T.err_BadCount.oex, T.err_BadCount.me, T.err_BadCount.sup, T.err_BadCount.ve, ?_⟩
    refine ⟨by show 1 ≤ 1000; decide, ha, ?_⟩
    exact ⟨x0, rfl, .ref a, rfl, a, T.C_BadCount, rfl, T.err_BadCount.oex, T.nf_BadCount_count, .inl ⟨ha, fun dx hd hne => k dx hd hne⟩⟩
theorem sc_Table_repeated : FnScope ["self", "count"] ["self", "count"] (defScope s_Table_repeated) := ⟨rfl, rfl, rfl, by decide +kernel, rfl, by decide +kernel, by decide +kernel⟩
theorem b_Table_repeated (T : Tx P K mg) : Binds K T.fd_Table_repeated ["self", "count"] [] := T.F_Table_repeated.bindsN fun _ _ _ _ _ _ us hl => match us, hl with | [_, _], _ => rfl
def cntO {α : Type} (U : Addr) (z : Int) (x : α ⊕ (Value × List (Str × V))) : α ⊕ (Value × List (Str × V)) := if z < 0 then .inr (.ref U, [("count", .int z)]) else x
theorem x_ltI {Γ : Mu.Ctx} {ta tb : TE} {a b : Int} (ha : EvX Γ ta (Mu.rI a)) (hb : EvX Γ tb (Mu.rI b)) : EvX Γ (tOp (rI0 fun i j => .bl (decide (i < j))) ta tb) (rB (decide (a < b))) := x_I0 ha hb
theorem x_ci {Γ : Mu.Ctx} (a : Int) : EvX Γ (tC (.int a)) (Mu.rI a) := x_c

def R_Table_repeated (T : Tx P K mg) : List V → Hp → Out → Prop := fun vs G o => ∃ (n : Nat) (z : Int) (m : List Nat), RA G vs [rTab K T.C_Table m, Mu.rI z] ∧ (Wf n m) ∧ (1 ≤ n) ∧ (n ≤ 6) ∧ o = cntO T.C_BadCount z (.inl (rTab K T.C_Table (powN n m z.toNat)))
theorem ok_Table_repeated (T : Tx P K mg) : FnOk P w K mg base (L2N.CX P w) 6 T.f_Table_repeated T.fd_Table_repeated ["self", "count"] (spO (R_Table_repeated T)) := by
  refine T.F_Table_repeated.ok sc_Table_repeated (fun vs H Q E h => ?_) (fun cdv A outer s H vs Q E hr h => ?_)
  · obtain ⟨G, o, _, ⟨n, z, m, ra, _⟩, _⟩ := h
    exact ra.len
  · obtain ⟨G, o, e, ⟨n, z, m, ra, q0, q1, q2, rfl⟩, k1, k2⟩ := h
    refine ⟨_, (pss_cons (ps_if (pt_cmpR op_lt (pv 1) pe_int (nomark _)) (pss_one (L2N.ps_raise rfl (L2N.takes_of rfl rfl rfl rfl) (pmk_err T.err_BadCount (ok_BadCount___init__ T) (hr.mono (by decide)) (b_BadCount___init__ T) pass0 (by rfl) T.g_BadCount (pa_cons (pv 1) pa_nil)))) pss_nil)
      (pss_one (ps_ret (pe_call (ok_table_of_masks T) (hr.mono (by decide)) (by rfl) T.g_table_of_masks T.F_table_of_masks.kp (b_table_of_masks T) .nil pass0 (pa_cons (pe_call (ok_power T) (hr.mono (by decide)) (by rfl) T.g_power T.F_power.kp (b_power T) .nil pass0 (pa_cons (pe_fldK K (pv 0)) (pa_cons (pv 1) pa_nil))) pa_nil))))), ?_⟩
    refine run_O (Γ := [some (rTab K T.C_Table m), some (Mu.rI z)]) ?_ e (En.start (k := 0) _ (rs := [rTab K T.C_Table m, Mu.rI z]) ra (by rw [ra.len]; rfl)) k1 k2
    clear ra e k1 k2
    have l_m := q0.len
    by_cases hz : z < 0
    · refine w_seq ?_
      apply w_yes
      · exact t_is (t_T (x_ltI (x_v rfl) (x_ci 0))) (decide_eq_true hz)
      · exact ws_raise1 (x_v rfl) (if_pos hz)
    · obtain ⟨c, rfl⟩ := Int.eq_ofNat_of_zero_le (by omega : 0 ≤ z)
      refine w_seq ?_
      apply w_no
      · exact t_is (t_T (x_ltI (x_v rfl) (x_ci 0))) (decide_eq_false hz)
      refine w_nx ?_
      try dsimp only
      have wp := powN_wf q0 c
      refine ws_ret (e_call (a_cons (e_call (a_cons (e_x (x_masks (x_v rfl) T.c_Table T.na_Table_masks) (a_cons (e_v rfl (a_nil (c_power T (c := c) q0 q2 (a_nil ?_))))))))))
      wtm_at "e"
      exact (if_neg hz)
theorem c_Table_repeated (T : Tx P K mg) {M : List Re} {κ : KV} {n : Nat} {z : Int} {m : List Nat} (q0 : Wf n m) (q1 : 1 ≤ n) (q2 : n ≤ 6) {r : Rp} (eo : cntO T.C_BadCount z (.inl (rTab K T.C_Table (powN n m z.toNat))) = .inl r) (k : κ r M) : CM (spO (R_Table_repeated T)) [rTab K T.C_Table m, Mu.rI z] M κ := cmO (fun vs G ra => ⟨n, z, m, ra, q0, q1, q2, eo.symm⟩) k
theorem xq_Table_repeated (T : Tx P K mg) {M : List Re} {κ : KV} {ε : KX} {n : Nat} {z : Int} {m : List Nat} (q0 : Wf n m) (q1 : 1 ≤ n) (q2 : n ≤ 6) {r : Rp} (eo : cntO T.C_BadCount z (.inl (rTab K T.C_Table (powN n m z.toNat))) = .inl r) (k : κ r M) : XM (spO (R_Table_repeated T)) [rTab K T.C_Table m, Mu.rI z] M κ ε := xm (fun vs G ra => ⟨n, z, m, ra, q0, q1, q2, eo.symm⟩) k
theorem xe_Table_repeated (T : Tx P K mg) {M : List Re} {κ : KV} {ε : KX} {n : Nat} {z : Int} {m : List Nat} (q0 : Wf n m) (q1 : 1 ≤ n) (q2 : n ≤ 6) {c : Value} {fs : List (Str × V)} (eo : cntO T.C_BadCount z (.inl (rTab K T.C_Table (powN n m z.toNat))) = .inr (c, fs)) (k : ε c fs M) : XM (spO (R_Table_repeated T)) [rTab K T.C_Table m, Mu.rI z] M κ ε := xmx (fun vs G ra => ⟨n, z, m, ra, q0, q1, q2, eo.symm⟩) k
local macro_rules | `(tactic| wtm_at "c") => `(tactic| refine xe_Table_repeated _ (by wtm_at "s") (by wtm_at "s") (by wtm_at "s") (by assumption) ?_)
local macro_rules | `(tactic| wtm_at "c") => `(tactic| refine xq_Table_repeated _ (by wtm_at "s") (by wtm_at "s") (by wtm_at "s") (by assumption) ?_)
local macro_rules | `(tactic| wtm_at "c") => `(tactic| refine c_Table_repeated _ (by wtm_at "s") (by wtm_at "s") (by wtm_at "s") (by assumption) ?_)
theorem sc__law_box : FnScope ["_law_script", "_law_cell"] ["_law_script"] (defScope s__law_box) := ⟨rfl, rfl, rfl, by decide +kernel, rfl, by decide +kernel, by decide +kernel⟩
theorem b__law_box (T : Tx P K mg) : Binds K T.fd__law_box ["_law_script"] [] := T.F__law_box.bindsN fun _ _ _ _ _ _ us hl => match us, hl with | [_], _ => rfl
theorem ok__law_box (T : Tx P K mg) : FnOk P w K mg base CX0 1 T.f__law_box T.fd__law_box ["_law_script"] (spBoxMk K) := by
  refine T.F__law_box.ok sc__law_box (fun vs H Q E h => ?_) (fun cdv A outer s H vs Q E hr h => ?_)
  · obtain ⟨a, ns, rfl, _⟩ := h
    rfl
  · obtain ⟨a, ns, rfl, hS, hl, k⟩ := h
    refine ⟨_, PSs.nox (pss_one (ps_ret (pe_lst (pa_cons (pe_lc (own := [("_law_cell", 1)]) (by rfl) sc__law_box.nd (pi_listK K (pe_slice (sl_listK K) (pv 0) po_none (po_some pe_int))) (blkOk_by (N := ["_law_script", "_law_cell"]) (sc := defScope s__law_box) (by decide +kernel)) (fun _ _ _ _ _ => (pg_name (i := 1) sc__law_box.nd rfl (Or.inl rfl))) (fun _ _ _ _ _ => pts_nil) (fun _ _ _ _ _ => (pe_callB call_abs (by rfl) T.m_abs (by decide +kernel) (pa_cons (pe_callTy call_int1 (by rfl) T.m_int (by decide +kernel) (pa_cons (pv 1) pa_nil)) pa_nil)))) (pa_cons pe_int (pa_cons pe_int (pa_cons pe_int pa_nil))))))), ?_⟩
    have hcut : cutR (ns.map Mu.rI) none (some 63) = (cutR ns none (some 63)).map Mu.rI := cutR_map _ _ _ _
    have hcl : (cutR ns none (some 63)).length ≤ 63 := by
      unfold cutR
      rw [List.length_take, List.length_drop]; omega
    have src : EvD (tSl (rSlL K) (tVar 0) tNoPart (tPart (tC (.int 63)))) [some (V.ref a), none] H (rL K ((cutR ns none (some 63)).map Mu.rI)) := hcut ▸ EvN.d (en_slL (ed_var (r := rLs K (ns.map Mu.rI)) rfl ⟨a, _, rfl, hS, ra_ints⟩) (fun _ _ => eo_none) (fun _ _ => eo_some ev_c))
    have lc := en_lcL0 (cutR ns none (some 63)) Mu.rI (fun i => Mu.rI (if i < 0 then -i else i)) src (by omega) (vs := [1]) (j := 1) (fun _ => rfl) (te := tCB (fun xs H Q => ∃ i, xs = [.int i] ∧ Q (.int (if i < 0 then -i else i)) H) (tCons (tCB (fun xs H Q => (∃ i, xs = [.int i] ∧ Q (.int i) H) ∨ ∃ k, xs = [.bl k] ∧ Q (.int (if k then 1 else 0)) H) (tCons (tVar 1) tNil)) tNil)) fun i y G1 hi e1 hy => by
      obtain rfl : y = V.int i := hy
      exact Ev.d (ev_abs (ev_int (ev_var rfl)))
    refine s_retN (Ex.refl H) (en_lst (ead_cons (EvN.d (K := K) lc) (ead_cons (Ev.d ev_c) (ead_cons (Ev.d ev_c) (ead_cons (Ev.d ev_c) ead_nil)))) (by show 4 ≤ 100000; decide)) fun p vs G2 H2 g hp gp h2 ra => ?_
    cases ra with
    | cons h1 t1 =>
      obtain ⟨x, y, z, rfl, hx, hy, hz⟩ := ra3 t1
      obtain rfl : x = V.int 0 := hx
      obtain rfl : y = V.int 0 := hy
      obtain rfl : z = V.int 0 := hz
      obtain ⟨c, ws, rfl, hc, rc⟩ := h1
      rw [show (cutR ns none (some 63)).map (fun i => Mu.rI (if i < 0 then -i else i)) = ((cutR ns none (some 63)).map (fun i => if i < 0 then -i else i)).map Mu.rI by rw [List.map_map]; rfl] at rc
      have ew := ra_ints_eq rc
      subst ew
      refine k p G2 H2 g.g g.i hp gp ⟨c, _, 0, 0, 0, h2, hc, fun z hz => ?_, by omega, by omega, by omega, by omega⟩
      obtain ⟨i, _, rfl⟩ := List.mem_map.mp hz
      split <;> omega
theorem sc__law_take : FnScope ["_law_box_here", "_law_many", "_law_digit", "_law_cell"] ["_law_box_here", "_law_many"] (defScope s__law_take) := ⟨rfl, rfl, rfl, by decide +kernel, rfl, by decide +kernel, by decide +kernel⟩
theorem b__law_take (T : Tx P K mg) : Binds K T.fd__law_take ["_law_box_here", "_law_many"] [] := T.F__law_take.bindsN fun _ _ _ _ _ _ us hl => match us, hl with | [_, _], _ => rfl
theorem ok__law_take (T : Tx P K mg) : FnOk P w K mg base CX0 1 T.f__law_take T.fd__law_take ["_law_box_here", "_law_many"] (spT K) := by
  refine T.F__law_take.ok sc__law_take (fun vs H Q E h => ?_) (fun cdv A outer s H vs Q E hr h => ?_)
  · obtain ⟨G, b, m, rfl, _⟩ := h
    rfl
  · obtain ⟨G, b, m, rfl, e, gb, hbox, h0, h1, k⟩ := h
    obtain ⟨c, cells, i, x, y, hb, hc, hcp, hi, hx, hy, hy2⟩ := hbox.ex
    refine ⟨_, PSs.nox (pss_cons (ps_if (pt_cmpR op_gt (pe_ix (ix_listK K) (pv 0) pe_int (fun _ _ => rfl)) pe_int (nomark _)) (pss_cons (ps_set (i := 2) sc__law_take.nd rfl (Or.inl rfl) (pe_op op_mod (pe_callTy call_int1 (by rfl) T.m_int (by decide +kernel) (pa_cons (pe_ix (ix_listK K) (pv 0) pe_int (fun _ _ => rfl)) pa_nil)) (pv 1)))
      (pss_cons (ps_asg (pe_op op_fdiv (pe_ix (ix_listK K) (pv 0) pe_int (fun _ _ => rfl)) (pv 1)) (pg_sub (pv 0) pe_int set_list))
      (pss_one (ps_ret (pv 2))))) pss_nil)
      (pss_cons (ps_set (i := 3) sc__law_take.nd rfl (Or.inl rfl) pe_int)
      (pss_cut (ps_if (pt_cmpR op_lt (pe_ix (ix_listK K) (pv 0) pe_int (fun _ _ => rfl)) (pe_callB (call_lenK K) (by rfl) T.m_len PySem.boot_len (pa_cons (pe_ix (ix_listK K) (pv 0) pe_int (fun _ _ => rfl)) pa_nil)) (nomark _)) (pss_cons (ps_set (i := 3) sc__law_take.nd rfl (Or.inl rfl) (pe_ix (ix_listK K) (pe_ix (ix_listK K) (pv 0) pe_int (fun _ _ => rfl)) (pe_ix (ix_listK K) (pv 0) pe_int (fun _ _ => rfl)) (fun _ _ => rfl)))
      (pss_one (ps_asg (pe_op op_add (pe_ix (ix_listK K) (pv 0) pe_int (fun _ _ => rfl)) pe_int) (pg_sub (pv 0) pe_int set_list)))) pss_nil)
      (pss_cons (ps_if (pt_cmpR op_ge (pv 3) (pe_op op_pow pe_int pe_int) (nomark _)) (pss_cons (ps_asg (pe_op op_fdiv (pv 3) (pv 1)) (pg_sub (pv 0) pe_int set_list))
      (pss_one (ps_ret (pe_op op_mod (pe_callTy call_int1 (by rfl) T.m_int (by decide +kernel) (pa_cons (pv 3) pa_nil)) (pv 1))))) pss_nil)
      (pss_cons (ps_asg (pe_op op_mod (pe_callTy call_int1 (by rfl) T.m_int (by decide +kernel) (pa_cons (pe_op op_add (pe_op op_mul (pe_ix (ix_listK K) (pv 0) pe_int (fun _ _ => rfl)) pe_int) (pv 3)) pa_nil)) pe_int) (pg_sub (pv 0) pe_int set_list))
      (pss_one (ps_ret (pe_op op_mod (pe_callTy call_int1 (by rfl) T.m_int (by decide +kernel) (pa_cons (pe_op op_fdiv (pe_op op_mod (pe_callTy call_int1 (by rfl) T.m_int (by decide +kernel) (pa_cons (pe_op op_mul (pe_ix (ix_listK K) (pv 0) pe_int (fun _ _ => rfl)) pe_int) pa_nil)) pe_int) pe_int) pa_nil)) (pv 1))))))))), ?_⟩
    have fin : ∀ (i' x' y' : Int) (H' : Hp) (d : Int), H' b = some (.lst [.ref c, .int i', .int x', .int y']) → 0 ≤ i' → 0 ≤ x' → 0 ≤ y' → y' < 2147483647 → (∀ a o, H a = some o → a ≠ b → H' a = some o) → 0 ≤ d → d < (m : Int) → Q (.int d) H' := by
      intro i' x' y' H' d h1 h2 h3 h4 h5 h6 h7 h8
      have z := k d.toNat H' (by omega) h6 fun G' hb' => by
        obtain ⟨c2, cells2, i2, x2, y2, b1, b2, b3, _⟩ := hb'.ex
        rw [hb] at b1
        injection b1 with b1
        injection b1 with b1
        injection b1 with b1 _
        injection b1 with b1
        subst b1
        exact ⟨c, cells2, i', x', y', h1, b2, b3, h2, h3, h4, h5⟩
      rwa [Int.toNat_of_nonneg h7] at z
    have mp : (0 : Int) < (m : Int) := by omega
    have md : CDiv x (m : Int) := ⟨mp, by omega⟩
    -- if box[2] > 0
    refine sq (s_ifE (Ex.refl H) (et_cmp (ev_op (ev_var rfl) ev_c (rv_ixL (sq_of hb) rfl)) ev_c) (fun hb1 H1 e1 => ?_) (fun hb1 H1 e1 => ?_))
    · refine sq (Mu.s_set e1 (ev_op (ev_int (ev_op (ev_var rfl) ev_c (rv_ixL (sq_of hb) rfl))) (ev_var rfl) (rv_I mp)) fun H2 e2 => ?_)
      have hb2 := e2 _ _ (e1 _ _ hb)
      refine sq (s_setL (j := 2) hb2 (ev_op (ev_op (ev_var rfl) ev_c (rv_ixL (sq_of hb2) rfl)) (ev_var rfl) (rv_I md)) (ev_var rfl) ev_c (by show 2 < 4; decide) fun H3 e3 => ?_)
      refine s_retE (Ex.refl _) (ev_var rfl) fun H4 e4 => ?_
      refine fin i (x / (m : Int)) y H4 _ (e4 _ _ upd_same) hi (Int.ediv_nonneg hx (by omega)) hy hy2 (fun a o z n => e4 _ _ (by rw [upd_ne n]; exact e3 _ _ (e2 _ _ (e1 _ _ z)))) (Int.emod_nonneg _ (by omega)) (Int.emod_lt_of_pos _ mp)
    -- cell = 0
    refine nxt ?_
    dsimp only
    refine sq (Mu.s_set e1 ev_c fun H2 e2 => ?_)
    have hb2 := e2 _ _ (e1 _ _ hb)
    have eG2 : Ex G H2 := e.trans (e1.trans e2)
    have hx0 : x ≤ 0 := by
      have q := of_decide_eq_false hb1
      omega
    have hcl : EvD (tOp (rIxL K) (tVar 0) (tC (.int 0))) [some (V.ref b), some (V.int (m : Int)), none, some (V.int 0)] (upd G b (.lst [.ref c, .int i, .int x, .int y])) (rL K (cells.map Mu.rI)) := fun H' e' Q' q' => by
      refine ⟨.ref b, rfl, b, _, 0, .ref c, rfl, rfl, sq_of (e' _ _ upd_same), rfl, q' (.ref c) _ H' (Gr.refl e') ⟨c, _, rfl, (Ex.new gb) _ _ hc, ra_ints⟩⟩
    have eB : Ex (upd G b (.lst [.ref c, .int i, .int x, .int y])) H2 := ex_add eG2 hb2
    -- if box[1] < len(box[0])
    refine ⟨fun σ' H' => ∃ i' cell : Int, σ' = [some (V.ref b), some (V.int (m : Int)), none, some (V.int cell)] ∧ H' b = some (.lst [.ref c, .int i', .int x, .int y]) ∧ 0 ≤ i' ∧ 0 ≤ cell ∧ (∀ a o, H a = some o → a ≠ b → H' a = some o), s_ifE eB (et_cmp (ev_op (ev_var rfl) ev_c (rv_ixL (sq_of upd_same) rfl)) (ev_lenL hcl (List.length_map _))) (fun hb3 H3 e3 => ?_) (fun hb3 H3 e3 => ?_), ?_⟩
    · have hlt : i < (cells.length : Int) := of_decide_eq_true hb3
      have hil : i.toNat < cells.length := by omega
      have ei : ((i.toNat : Nat) : Int) = i := Int.toNat_of_nonneg hi
      have hget : (cells.map Mu.rI)[i.toNat]? = some (Mu.rI cells[i.toNat]) := by rw [List.getElem?_map, List.getElem?_eq_getElem hil]; rfl
      refine sq (Mu.s_set (eB.trans e3) (EvD.ev (ed_ixL hcl (by rw [ei]; exact ev_op (ev_var rfl) ev_c (rv_ixL (sq_of upd_same) rfl)) hget)) fun H4 e4 => ?_)
      have hb4 := e4 _ _ (e3 _ _ hb2)
      refine s_setL (j := 1) hb4 (ev_op (ev_op (ev_var rfl) ev_c (rv_ixL (sq_of hb4) rfl)) ev_c rv_I0) (ev_var rfl) ev_c (by show 1 < 4; decide) fun H5 e5 => ?_
      exact ⟨i + 1, cells[i.toNat], rfl, upd_same, by omega, hcp _ (List.getElem_mem hil), fun a o z n => by rw [upd_ne n]; exact e5 _ _ (e4 _ _ (e3 _ _ (e2 _ _ (e1 _ _ z))))⟩
    · exact nxt ⟨i, 0, rfl, e3 _ _ hb2, hi, by omega, fun a o z n => e3 _ _ (e2 _ _ (e1 _ _ z))⟩
    · rintro σ' H3 ⟨i', cell, rfl, hb3, hi3, hcell, keep⟩
      refine sq (s_ifE (Ex.refl H3) (et_cmp (ev_var rfl) (ev_op ev_c ev_c (rv_I ⟨by decide, by decide, by decide⟩))) (fun hb4 H4 e4 => ?_) (fun hb4 H4 e4 => ?_))
      · have hb4' := e4 _ _ hb3
        refine sq (s_setL (j := 2) hb4' (ev_op (ev_var rfl) (ev_var rfl) (rv_I ⟨mp, by omega⟩)) (ev_var rfl) ev_c (by show 2 < 4; decide) fun H5 e5 => ?_)
        dsimp only
        refine s_retE (Ex.refl _) (ev_op (ev_int (ev_var rfl)) (ev_var rfl) (rv_I mp)) fun H6 e6 => ?_
        exact fin i' (cell / (m : Int)) y H6 _ (e6 _ _ upd_same) hi3 (Int.ediv_nonneg hcell (by omega)) hy hy2 (fun a o z n => e6 _ _ (by rw [upd_ne n]; exact e5 _ _ (e4 _ _ (keep a o z n)))) (Int.emod_nonneg _ (by omega)) (Int.emod_lt_of_pos _ mp)
      · have hb4' := e4 _ _ hb3
        have hc18 : cell < 10 ^ 18 := by
          have q := of_decide_eq_false hb4
          have q2 : ¬ ((10 : Int) ^ (18 : Int).toNat ≤ cell) := q
          have q3 : (10 : Int) ^ (18 : Int).toNat = 10 ^ 18 := rfl
          rw [q3] at q2
          omega
        refine nxt ?_
        dsimp only
        refine sq (s_setL (j := 3) hb4' (ev_op (ev_int (ev_op (ev_op (ev_op (ev_var rfl) ev_c (rv_ixL (sq_of hb4') rfl)) ev_c (rv_I (Or.inl ⟨by omega, by omega⟩))) (ev_var rfl) rv_I0)) ev_c (rv_I (by decide))) (ev_var rfl) ev_c (by show 3 < 4; decide) fun H5 e5 => ?_)
        have ny0 : (0 : Int) ≤ (y * 48271 + cell) % 2147483647 := Int.emod_nonneg _ (by decide)
        have ny1 : (y * 48271 + cell) % 2147483647 < 2147483647 := Int.emod_lt_of_pos _ (by decide)
        have hb6 : (upd H5 b (.lst ([V.ref c, .int i', .int x, .int y].set 3 (.int ((y * 48271 + cell) % 2147483647))))) b = some (.lst [.ref c, .int i', .int x, .int ((y * 48271 + cell) % 2147483647)]) := upd_same
        dsimp only
        refine s_retE (Ex.refl _) (ev_op (ev_int (ev_op (ev_op (ev_int (ev_op (ev_op (ev_var rfl) ev_c (rv_ixL (sq_of hb6) rfl)) ev_c (rv_I (Or.inl ⟨by omega, by omega⟩)))) ev_c (rv_I (by decide))) ev_c (rv_I ⟨by decide, by decide⟩))) (ev_var rfl) (rv_I mp)) fun H6 e6 => ?_
        exact fin i' x _ H6 _ (e6 _ _ hb6) hi3 hx ny0 ny1 (fun a o z n => e6 _ _ (by rw [upd_ne n]; exact e5 _ _ (e4 _ _ (keep a o z n)))) (Int.emod_nonneg _ (by omega)) (Int.emod_lt_of_pos _ mp)
local macro_rules | `(tactic| wtm_at "c") => `(tactic| refine c_take 0 (by assumption) (by wtm_at "s") (by wtm_at "s") ?_)
local macro_rules | `(tactic| wtm_at "c") => `(tactic| refine c_take 0 rfl (by wtm_at "s") (by wtm_at "s") ?_)
local macro_rules | `(tactic| wtm_at "c") => `(tactic| refine c_take 1 rfl (by wtm_at "s") (by wtm_at "s") ?_)
def spTW (K : PySem.W.Frag) : Sp := fun vs H Q _ => ∃ G b m, vs = [.ref b, .int ((m : Nat) : Int)] ∧ Ex G H ∧ G b = none ∧ Box K G H b ∧ 0 < m ∧ m < 2 ^ 200 ∧ ∀ (d : Nat) H2, d < m → (∀ a o, H a = some o → a ≠ b → H2 a = some o) → (∀ G', Box K G' H b → Box K G' H2 b) → Q (.int (d : Int)) H2

theorem ok__law_takeW (T : Tx P K mg) : FnOk P w K mg base CX0 1 T.f__law_take T.fd__law_take ["_law_box_here", "_law_many"] (spTW K) := by
  refine T.F__law_take.ok sc__law_take (fun vs H Q E h => ?_) (fun cdv A outer s H vs Q E hr h => ?_)
  · obtain ⟨G, b, m, rfl, _⟩ := h
    rfl
  · obtain ⟨G, b, m, rfl, e, gb, hbox, h0, h1, k⟩ := h
    obtain ⟨c, cells, i, x, y, hb, hc, hcp, hi, hx, hy, hy2⟩ := hbox.ex
    refine ⟨_, PSs.nox (pss_cons (ps_if (pt_cmpR op_gt (pe_ix (ix_listK K) (pv 0) pe_int (fun _ _ => rfl)) pe_int (nomark _)) (pss_cons (ps_set (i := 2) sc__law_take.nd rfl (Or.inl rfl) (pe_op op_mod (pe_callTy call_int1 (by rfl) T.m_int (by decide +kernel) (pa_cons (pe_ix (ix_listK K) (pv 0) pe_int (fun _ _ => rfl)) pa_nil)) (pv 1)))
      (pss_cons (ps_asg (pe_op op_fdivW (pe_ix (ix_listK K) (pv 0) pe_int (fun _ _ => rfl)) (pv 1)) (pg_sub (pv 0) pe_int set_list))
      (pss_one (ps_ret (pv 2))))) pss_nil)
      (pss_cons (ps_set (i := 3) sc__law_take.nd rfl (Or.inl rfl) pe_int)
      (pss_cut (ps_if (pt_cmpR op_lt (pe_ix (ix_listK K) (pv 0) pe_int (fun _ _ => rfl)) (pe_callB (call_lenK K) (by rfl) T.m_len PySem.boot_len (pa_cons (pe_ix (ix_listK K) (pv 0) pe_int (fun _ _ => rfl)) pa_nil)) (nomark _)) (pss_cons (ps_set (i := 3) sc__law_take.nd rfl (Or.inl rfl) (pe_ix (ix_listK K) (pe_ix (ix_listK K) (pv 0) pe_int (fun _ _ => rfl)) (pe_ix (ix_listK K) (pv 0) pe_int (fun _ _ => rfl)) (fun _ _ => rfl)))
      (pss_one (ps_asg (pe_op op_add (pe_ix (ix_listK K) (pv 0) pe_int (fun _ _ => rfl)) pe_int) (pg_sub (pv 0) pe_int set_list)))) pss_nil)
      (pss_cons (ps_if (pt_cmpR op_ge (pv 3) (pe_op op_pow pe_int pe_int) (nomark _)) (pss_cons (ps_asg (pe_op op_fdivW (pv 3) (pv 1)) (pg_sub (pv 0) pe_int set_list))
      (pss_one (ps_ret (pe_op op_mod (pe_callTy call_int1 (by rfl) T.m_int (by decide +kernel) (pa_cons (pv 3) pa_nil)) (pv 1))))) pss_nil)
      (pss_cons (ps_asg (pe_op op_mod (pe_callTy call_int1 (by rfl) T.m_int (by decide +kernel) (pa_cons (pe_op op_add (pe_op op_mul (pe_ix (ix_listK K) (pv 0) pe_int (fun _ _ => rfl)) pe_int) (pv 3)) pa_nil)) pe_int) (pg_sub (pv 0) pe_int set_list))
      (pss_one (ps_ret (pe_op op_mod (pe_callTy call_int1 (by rfl) T.m_int (by decide +kernel) (pa_cons (pe_op op_fdivW (pe_op op_mod (pe_callTy call_int1 (by rfl) T.m_int (by decide +kernel) (pa_cons (pe_op op_mul (pe_ix (ix_listK K) (pv 0) pe_int (fun _ _ => rfl)) pe_int) pa_nil)) pe_int) pe_int) pa_nil)) (pv 1))))))))), ?_⟩
    have fin : ∀ (i' x' y' : Int) (H' : Hp) (d : Int), H' b = some (.lst [.ref c, .int i', .int x', .int y']) → 0 ≤ i' → 0 ≤ x' → 0 ≤ y' → y' < 2147483647 → (∀ a o, H a = some o → a ≠ b → H' a = some o) → 0 ≤ d → d < (m : Int) → Q (.int d) H' := by
      intro i' x' y' H' d h1 h2 h3 h4 h5 h6 h7 h8
      have z := k d.toNat H' (by omega) h6 fun G' hb' => by
        obtain ⟨c2, cells2, i2, x2, y2, b1, b2, b3, _⟩ := hb'.ex
        rw [hb] at b1
        injection b1 with b1
        injection b1 with b1
        injection b1 with b1 _
        injection b1 with b1
        subst b1
        exact ⟨c, cells2, i', x', y', h1, b2, b3, h2, h3, h4, h5⟩
      rwa [Int.toNat_of_nonneg h7] at z
    have mp : (0 : Int) < (m : Int) := by omega
    have md : CDivW x (m : Int) := ⟨mp, by rw [Int.natAbs_natCast]; exact Nat.lt_trans (PySem.Flt.log2_lt_of (by decide) h1) (by decide)⟩
    -- if box[2] > 0
    refine sq (s_ifE (Ex.refl H) (et_cmp (ev_op (ev_var rfl) ev_c (rv_ixL (sq_of hb) rfl)) ev_c) (fun hb1 H1 e1 => ?_) (fun hb1 H1 e1 => ?_))
    · refine sq (Mu.s_set e1 (ev_op (ev_int (ev_op (ev_var rfl) ev_c (rv_ixL (sq_of hb) rfl))) (ev_var rfl) (rv_I mp)) fun H2 e2 => ?_)
      have hb2 := e2 _ _ (e1 _ _ hb)
      refine sq (s_setL (j := 2) hb2 (ev_op (ev_op (ev_var rfl) ev_c (rv_ixL (sq_of hb2) rfl)) (ev_var rfl) (rv_I md)) (ev_var rfl) ev_c (by show 2 < 4; decide) fun H3 e3 => ?_)
      refine s_retE (Ex.refl _) (ev_var rfl) fun H4 e4 => ?_
      refine fin i (x / (m : Int)) y H4 _ (e4 _ _ upd_same) hi (Int.ediv_nonneg hx (by omega)) hy hy2 (fun a o z n => e4 _ _ (by rw [upd_ne n]; exact e3 _ _ (e2 _ _ (e1 _ _ z)))) (Int.emod_nonneg _ (by omega)) (Int.emod_lt_of_pos _ mp)
    -- cell = 0
    refine nxt ?_
    dsimp only
    refine sq (Mu.s_set e1 ev_c fun H2 e2 => ?_)
    have hb2 := e2 _ _ (e1 _ _ hb)
    have eG2 : Ex G H2 := e.trans (e1.trans e2)
    have hx0 : x ≤ 0 := by
      have q := of_decide_eq_false hb1
      omega
    have hcl : EvD (tOp (rIxL K) (tVar 0) (tC (.int 0))) [some (V.ref b), some (V.int (m : Int)), none, some (V.int 0)] (upd G b (.lst [.ref c, .int i, .int x, .int y])) (rL K (cells.map Mu.rI)) := fun H' e' Q' q' => by
      refine ⟨.ref b, rfl, b, _, 0, .ref c, rfl, rfl, sq_of (e' _ _ upd_same), rfl, q' (.ref c) _ H' (Gr.refl e') ⟨c, _, rfl, (Ex.new gb) _ _ hc, ra_ints⟩⟩
    have eB : Ex (upd G b (.lst [.ref c, .int i, .int x, .int y])) H2 := ex_add eG2 hb2
    -- if box[1] < len(box[0])
    refine ⟨fun σ' H' => ∃ i' cell : Int, σ' = [some (V.ref b), some (V.int (m : Int)), none, some (V.int cell)] ∧ H' b = some (.lst [.ref c, .int i', .int x, .int y]) ∧ 0 ≤ i' ∧ 0 ≤ cell ∧ (∀ a o, H a = some o → a ≠ b → H' a = some o), s_ifE eB (et_cmp (ev_op (ev_var rfl) ev_c (rv_ixL (sq_of upd_same) rfl)) (ev_lenL hcl (List.length_map _))) (fun hb3 H3 e3 => ?_) (fun hb3 H3 e3 => ?_), ?_⟩
    · have hlt : i < (cells.length : Int) := of_decide_eq_true hb3
      have hil : i.toNat < cells.length := by omega
      have ei : ((i.toNat : Nat) : Int) = i := Int.toNat_of_nonneg hi
      have hget : (cells.map Mu.rI)[i.toNat]? = some (Mu.rI cells[i.toNat]) := by rw [List.getElem?_map, List.getElem?_eq_getElem hil]; rfl
      refine sq (Mu.s_set (eB.trans e3) (EvD.ev (ed_ixL hcl (by rw [ei]; exact ev_op (ev_var rfl) ev_c (rv_ixL (sq_of upd_same) rfl)) hget)) fun H4 e4 => ?_)
      have hb4 := e4 _ _ (e3 _ _ hb2)
      refine s_setL (j := 1) hb4 (ev_op (ev_op (ev_var rfl) ev_c (rv_ixL (sq_of hb4) rfl)) ev_c rv_I0) (ev_var rfl) ev_c (by show 1 < 4; decide) fun H5 e5 => ?_
      exact ⟨i + 1, cells[i.toNat], rfl, upd_same, by omega, hcp _ (List.getElem_mem hil), fun a o z n => by rw [upd_ne n]; exact e5 _ _ (e4 _ _ (e3 _ _ (e2 _ _ (e1 _ _ z))))⟩
    · exact nxt ⟨i, 0, rfl, e3 _ _ hb2, hi, by omega, fun a o z n => e3 _ _ (e2 _ _ (e1 _ _ z))⟩
    · rintro σ' H3 ⟨i', cell, rfl, hb3, hi3, hcell, keep⟩
      refine sq (s_ifE (Ex.refl H3) (et_cmp (ev_var rfl) (ev_op ev_c ev_c (rv_I ⟨by decide, by decide, by decide⟩))) (fun hb4 H4 e4 => ?_) (fun hb4 H4 e4 => ?_))
      · have hb4' := e4 _ _ hb3
        refine sq (s_setL (j := 2) hb4' (ev_op (ev_var rfl) (ev_var rfl) (rv_I (show CDivW cell (m : Int) from ⟨mp, by rw [Int.natAbs_natCast]; exact Nat.lt_trans (PySem.Flt.log2_lt_of (by decide) h1) (by decide)⟩))) (ev_var rfl) ev_c (by show 2 < 4; decide) fun H5 e5 => ?_)
        dsimp only
        refine s_retE (Ex.refl _) (ev_op (ev_int (ev_var rfl)) (ev_var rfl) (rv_I mp)) fun H6 e6 => ?_
        exact fin i' (cell / (m : Int)) y H6 _ (e6 _ _ upd_same) hi3 (Int.ediv_nonneg hcell (by omega)) hy hy2 (fun a o z n => e6 _ _ (by rw [upd_ne n]; exact e5 _ _ (e4 _ _ (keep a o z n)))) (Int.emod_nonneg _ (by omega)) (Int.emod_lt_of_pos _ mp)
      · have hb4' := e4 _ _ hb3
        have hc18 : cell < 10 ^ 18 := by
          have q := of_decide_eq_false hb4
          have q2 : ¬ ((10 : Int) ^ (18 : Int).toNat ≤ cell) := q
          have q3 : (10 : Int) ^ (18 : Int).toNat = 10 ^ 18 := rfl
          rw [q3] at q2
          omega
        refine nxt ?_
        dsimp only
        refine sq (s_setL (j := 3) hb4' (ev_op (ev_int (ev_op (ev_op (ev_op (ev_var rfl) ev_c (rv_ixL (sq_of hb4') rfl)) ev_c (rv_I (Or.inl ⟨by omega, by omega⟩))) (ev_var rfl) rv_I0)) ev_c (rv_I (by decide))) (ev_var rfl) ev_c (by show 3 < 4; decide) fun H5 e5 => ?_)
        have ny0 : (0 : Int) ≤ (y * 48271 + cell) % 2147483647 := Int.emod_nonneg _ (by decide)
        have ny1 : (y * 48271 + cell) % 2147483647 < 2147483647 := Int.emod_lt_of_pos _ (by decide)
        have hb6 : (upd H5 b (.lst ([V.ref c, .int i', .int x, .int y].set 3 (.int ((y * 48271 + cell) % 2147483647))))) b = some (.lst [.ref c, .int i', .int x, .int ((y * 48271 + cell) % 2147483647)]) := upd_same
        dsimp only
        refine s_retE (Ex.refl _) (ev_op (ev_int (ev_op (ev_op (ev_int (ev_op (ev_op (ev_var rfl) ev_c (rv_ixL (sq_of hb6) rfl)) ev_c (rv_I (Or.inl ⟨by omega, by omega⟩)))) ev_c (rv_I (by decide))) ev_c (rv_I ⟨by decide, by decide⟩))) (ev_var rfl) (rv_I mp)) fun H6 e6 => ?_
        exact fin i' x _ H6 _ (e6 _ _ hb6) hi3 hx ny0 ny1 (fun a o z n => e6 _ _ (by rw [upd_ne n]; exact e5 _ _ (e4 _ _ (keep a o z n)))) (Int.emod_nonneg _ (by omega)) (Int.emod_lt_of_pos _ mp)

theorem c_takeW (k : Nat) {M : List Re} {κ : KV} {b : Addr} {m : Nat} (hk : M[k]? = some (boxR K b)) (h0 : 0 < m) (h1 : m < 2 ^ 200) (kk : ∀ d, d < m → κ (nI d) M) : CM (spTW K) [rV (.ref b), nI m] M κ := fun E B G H vs o ra Q q => by
  obtain ⟨x, y, rfl, hx, hy⟩ := ra2 ra
  obtain rfl : x = V.ref b := hx
  obtain rfl : y = V.int (m : Int) := hy
  have hm := List.mem_of_getElem? hk
  have gb : G b = none := o.z b (mem_feet hm (List.mem_singleton.mpr rfl))
  refine ⟨G, b, m, rfl, o.i, gb, o.m _ hm, h0, h1, fun d H2 hd keep bx => ?_⟩
  have o2 := o.chg (R' := boxR K b) hk rfl rfl (Ex.refl G) (fun a u z n => keep a u z fun e => n (List.mem_singleton.mpr e)) (fun a u z => keep a u (o.i a u z) fun e => by
    rw [e, gb] at z
    cases z) (fun _ _ _ y => y) (bx G (o.m _ hm))
  have e : M.set k (boxR K b) = M := by
    apply List.ext_getElem?
    intro i
    by_cases c : k = i
    · subst c
      rw [List.getElem?_set_self', hk]
      rfl
    · rw [List.getElem?_set_ne c]
  rw [e] at o2
  exact q (.int (d : Int)) G H2 (nI d) M (kk d hd) o2 (Ex.refl G) rfl
local macro_rules | `(tactic| wtm_at "c") => `(tactic| refine c_takeW 0 rfl (by wtm_at "s") (by wtm_at "s") ?_)
theorem sc__law_words : FnScope ["_law_box_here", "_law_n", "_law_least", "_law_mask", "_law_word"] ["_law_box_here", "_law_n", "_law_least"] (defScope s__law_words) := ⟨rfl, rfl, rfl, by decide +kernel, rfl, by decide +kernel, by decide +kernel⟩
theorem b__law_words (T : Tx P K mg) : Binds K T.fd__law_words ["_law_box_here", "_law_n", "_law_least"] [] := T.F__law_words.bindsN fun _ _ _ _ _ _ us hl => match us, hl with | [_, _, _], _ => rfl
def R_words : List V → Hp → (List Rp → Prop) → Prop := fun ws _ PP => ∃ n least : Nat, ws = [.int (n : Int), .int (least : Int)] ∧ n ≤ 6 ∧ least < 2 ^ n ∧ PP = fun rs => ∃ mask, least ≤ mask ∧ mask < 2 ^ n ∧ rs = (bitsN mask).map nI
theorem ok__law_words (T : Tx P K mg) : FnOk P w K mg base CX0 2 T.f__law_words T.fd__law_words ["_law_box_here", "_law_n", "_law_least"] (spBN K R_words) := by
  refine T.F__law_words.ok sc__law_words (fun vs H Q E h => ?_) (fun cdv A outer s H vs Q E hr h => ?_)
  · obtain ⟨G, b, ws, PP, rfl, _, _, _, ⟨n, least, rfl, _⟩, _⟩ := h
    rfl
  · obtain ⟨G, b, ws, PP, rfl, e, gb, hbox, ⟨n, least, rfl, hn, hl, rfl⟩, k⟩ := h
    refine ⟨_, PSs.nox (pss_cons (ps_set (i := 3) sc__law_words.nd rfl (Or.inr rfl) (pe_op op_add (pv 2) (pe_call (ok__law_take T) (hr.mono (by decide)) (by rfl) T.g__law_take T.F__law_take.kp (b__law_take T) .nil pass0 (pa_cons (pv 0) (pa_cons (pe_op op_sub (pe_ix (ix_listK K) (pe_lst (pa_cons pe_int (pa_cons pe_int (pa_cons pe_int (pa_cons pe_int (pa_cons pe_int (pa_cons pe_int (pa_cons pe_int pa_nil)))))))) (pv 1) (fun _ _ => rfl)) (pv 2)) pa_nil)))))
      (pss_one (ps_ret (pe_lc (own := [("_law_word", 4)]) (by rfl) sc__law_words.nd (pi_range1 (by rfl) T.m_range (pa_cons (pv 1) pa_nil)) (blkOk_by (N := ["_law_box_here", "_law_n", "_law_least", "_law_mask", "_law_word"]) (sc := defScope s__law_words) (by decide +kernel)) (fun _ _ _ _ _ => (pg_name (i := 4) sc__law_words.nd rfl (Or.inl rfl))) (fun _ _ _ _ _ => (pts_one (pt_cmpR op_eq (pe_op op_mod (pe_callTy call_int1 (by rfl) T.m_int (by decide +kernel) (pa_cons (pe_op op_fdiv (pv 3) (pe_ix (ix_listK K) (pe_lst (pa_cons pe_int (pa_cons pe_int (pa_cons pe_int (pa_cons pe_int (pa_cons pe_int (pa_cons pe_int pa_nil))))))) (pv 4) (fun _ _ => rfl))) pa_nil)) pe_int) pe_int (nomark _)))) (fun _ _ _ _ _ => (pv 4)))))), ?_⟩
    have p6 : (2 : Nat) ^ n ≤ 2 ^ 6 := Nat.pow_le_pow_right (by decide) hn
    have e0 : ((2 ^ n : Nat) : Int) - (least : Int) = ((2 ^ n - least : Nat) : Int) := by omega
    refine sq (s_setB e gb hbox (eb_opN (ev_var rfl) (eb_take (m := 2 ^ n - least) rfl (by rw [← e0]; exact ev_op (EvD.ev (ed_ixL (K := K) (EvN.d (en_lst (ead_cons (Ev.d ev_c) (ead_cons (Ev.d ev_c) (ead_cons (Ev.d ev_c) (ead_cons (Ev.d ev_c) (ead_cons (Ev.d ev_c) (ead_cons (Ev.d ev_c) (ead_cons (Ev.d ev_c) ead_nil))))))) (by show 7 ≤ 100000; decide))) (ev_var rfl) (pow_list hn))) (ev_var rfl) rv_I0) (by omega) (by omega)) (fun d => .int ((least : Int) + (d : Int))) fun d _ H Q q => ⟨_, _, rfl, rfl, q⟩) fun r v G2 H2 hP g hb2 hv => ?_)
    obtain ⟨d, hd, rfl⟩ := hP
    obtain rfl : v = V.int ((least : Int) + (d : Int)) := hv
    have em : (least : Int) + (d : Int) = ((least + d : Nat) : Int) := by omega
    rw [em]
    refine s_retN (rs := (bitsN (least + d)).map nI) g.i (en_is (en_lcR n (fun w => (least + d).testBit w) nI (ea_cons (ev_var rfl) ea_nil) (by omega) (fun _ => rfl) (fun w G1 hw e1 => ?_) (fun w G1 hw _ e1 => Ev.d (ev_var rfl))) ?_) fun p vs G3 H3 g3 hp gp h3 ra => ?_
    · refine et_is (et_eq (ev_op (ev_int (ev_op (ev_var rfl) (EvD.ev (ed_ixL (K := K) (EvN.d (en_lst (ead_cons (Ev.d ev_c) (ead_cons (Ev.d ev_c) (ead_cons (Ev.d ev_c) (ead_cons (Ev.d ev_c) (ead_cons (Ev.d ev_c) (ead_cons (Ev.d ev_c) ead_nil)))))) (by show 6 ≤ 100000; decide))) (ev_var rfl) (pow_list6 (by omega)))) (rv_I ⟨?_, ?_⟩))) ev_c (rv_I (by decide))) ev_c rfl) ?_
      · have := Nat.two_pow_pos w; omega
      · have : (2 : Nat) ^ w ≤ 2 ^ 5 := Nat.pow_le_pow_right (by decide) (by omega)
        omega
      · rw [← test_div]
        simp
    · rw [bits_eq (show least + d < 2 ^ n by omega)]
    · have hpH := (g.fresh hb2.at_ hp).1
      exact k _ p vs G3 H3 ⟨least + d, by omega, by omega, rfl⟩ (g.trans gb hbox.at_ g3.b hb2.at_) (hb2.mono g3.g g3.h) hpH gp h3 ra

theorem c_words (T : Tx P K mg) {M : List Re} {κ : KV} {b : Addr} {n least : Nat} (hk : M[0]? = some (boxR K b)) (h6 : n ≤ 6) (hl : least < 2 ^ n) (k : ∀ mask, least ≤ mask → mask < 2 ^ n → κ (rLn K (bitsN mask)) M) : CM (spBN K R_words) [rV (.ref b), nI n, nI least] M κ := c_BNf K 0 hk (fun ws G ra => by
  obtain ⟨x, y, rfl, hx, hy⟩ := ra2 ra
  obtain rfl : x = V.int (n : Int) := hx
  obtain rfl : y = V.int (least : Int) := hy
  exact ⟨n, least, rfl, h6, hl, rfl⟩) fun ss h => by
  obtain ⟨m, w, hm, rfl⟩ := h
  exact k m w hm
theorem o_words (T : Tx P K mg) {M : List Re} {κ : KV} {b : Addr} {n least : Nat} (hk : M[0]? = some (boxR K b)) (h6 : n ≤ 6) (hl : least < 2 ^ n) (k : ∀ mask, least ≤ mask → mask < 2 ^ n → ∀ p, κ (rV (.ref p)) (M ++ [lstR p ((bitsN mask).map nI)])) : CM (spBN K R_words) [rV (.ref b), nI n, nI least] M κ := c_BN 0 hk (fun ws G ra => by
  obtain ⟨x, y, rfl, hx, hy⟩ := ra2 ra
  obtain rfl : x = V.int (n : Int) := hx
  obtain rfl : y = V.int (least : Int) := hy
  exact ⟨n, least, rfl, h6, hl, rfl⟩) fun ss h p => by
  obtain ⟨m, w, hm, rfl⟩ := h
  exact k m w hm p
local macro_rules | `(tactic| wtm_at "co") => `(tactic| refine o_words (by assumption) rfl (by wtm_at "s") (by wtm_at "s") ?_)
local macro_rules | `(tactic| wtm_at "c") => `(tactic| refine c_words (by assumption) rfl (by wtm_at "s") (by wtm_at "s") ?_)
theorem sc__law_rows : FnScope ["_law_box_here", "_law_n", "_law_least", "_law_rows_here", "_law_k"] ["_law_box_here", "_law_n", "_law_least"] (defScope s__law_rows) := ⟨rfl, rfl, rfl, by decide +kernel, rfl, by decide +kernel, by decide +kernel⟩
theorem b__law_rows (T : Tx P K mg) : Binds K T.fd__law_rows ["_law_box_here", "_law_n", "_law_least"] [] := T.F__law_rows.bindsN fun _ _ _ _ _ _ us hl => match us, hl with | [_, _, _], _ => rfl
def R_lrows (K : PySem.W.Frag) : List V → Hp → (List Rp → Prop) → Prop := fun ws _ PP => ∃ n least : Nat, ws = [.int (n : Int), .int (least : Int)] ∧ 1 ≤ n ∧ n ≤ 6 ∧ least ≤ 1 ∧ PP = fun rs => ∃ m, Wf n m ∧ (∀ x ∈ m, least ≤ x) ∧ rs = (m.map bitsN).map (rLn K)
/-- between two turns -/
def lrowsI (K : PySem.W.Frag) (G0 H0 : Hp) (b p : Addr) (n least i : Nat) (σ' : L2.St) (H' : Hp) : Prop := ∃ (G' : Hp) (ws : List V) (m : List Nat) (u : Option V), σ' = [some (V.ref b), some (.int (n : Int)), some (.int (least : Int)), some (.ref p), u] ∧ GrB b G0 H0 G' H' ∧ Box K G' H' b ∧ G' p = none ∧ H' p = some (.lst ws) ∧ RA G' ws ((m.map bitsN).map (rLn K)) ∧ m.length = i ∧ ∀ x ∈ m, least ≤ x ∧ x < 2 ^ n
theorem lrows_app {K : PySem.W.Frag} {G0 H0 G H : Hp} {b p : Addr} {n least i : Nat} {ws : List V} {m : List Nat} {te : TE} {D : Ends} {u : Option V} (hp0 : H0 p = none) (gb0 : G0 b = none) (hb0 : ∃ o, H0 b = some o) (pb : p ≠ b) (g : GrB b G0 H0 G H) (hbx : Box K G H b) (gp : G p = none) (hp : H p = some (.lst ws)) (ra : RA G ws ((m.map bitsN).map (rLn K))) (hlen : m.length = i) (hi : i < 100) (hm : ∀ x ∈ m, least ≤ x ∧ x < 2 ^ n)
    (hte : EvB K te [some (V.ref b), some (.int (n : Int)), some (.int (least : Int)), some (.ref p), u] b G (fun r => ∃ x, least ≤ x ∧ x < 2 ^ n ∧ r = rLn K (bitsN x))) (hD : ∀ σ' H', lrowsI K G0 H0 b p n least (i + 1) σ' H' → D.nx σ' H') :
    tDrop (tBM K "list" rAppend (tVar 3) (tCons te tNil)) D [some (V.ref b), some (.int (n : Int)), some (.int (least : Int)), some (.ref p), u] H := by
  refine s_appB g.i (g.out gb0 hb0) hbx hp gp pb ra (ev_var rfl) hte (by rw [List.length_map, List.length_map, hlen]; omega) fun r ws' G3 H3 hP e3 k3 i3 n3 hb3 hp3 ra3 => ?_
  obtain ⟨x, hx1, hx2, rfl⟩ := hP
  refine hD _ _ ⟨G3, ws', m ++ [x], _, rfl, g.app hp0 gb0 hb0 hbx.at_ e3 k3 i3 n3, hb3, n3 p _ hp gp, hp3, ?_, by rw [List.length_append, hlen]; rfl, fun y hy => ?_⟩
  · rw [List.map_append, List.map_append]; exact ra3
  · rcases List.mem_append.mp hy with q | q
    · exact hm y q
    · simp at q; subst q; exact ⟨hx1, hx2⟩
theorem ok__law_rows (T : Tx P K mg) : FnOk P w K mg base CX0 3 T.f__law_rows T.fd__law_rows ["_law_box_here", "_law_n", "_law_least"] (spBN K (R_lrows K)) := by
  refine T.F__law_rows.ok sc__law_rows (fun vs H Q E h => ?_) (fun cdv A outer s H vs Q E hr h => ?_)
  · obtain ⟨G, b, ws, PP, rfl, _, _, _, ⟨n, least, rfl, _⟩, _⟩ := h
    rfl
  · obtain ⟨G, b, ws, PP, rfl, e, gb, hbox, ⟨n, least, rfl, h1, hn, hl, rfl⟩, k⟩ := h
    refine ⟨_, PSs.nox (pss_cons (ps_set (i := 3) sc__law_rows.nd rfl (Or.inl rfl) (pe_lst pa_nil))
      (pss_cons (ps_for PassesOwn.never rfl (pi_range1 (by rfl) T.m_range (pa_cons (pv 1) pa_nil)) (pg_name (i := 4) sc__law_rows.nd rfl (Or.inl rfl)) (pss_one (ps_if (pt_cmpR op_eq (pe_call (ok__law_take T) (hr.mono (by decide)) (by rfl) T.g__law_take T.F__law_take.kp (b__law_take T) .nil pass0 (pa_cons (pv 0) (pa_cons pe_int pa_nil))) pe_int (nomark _)) (pss_one (ps_expr (pe_bm PySem.F.plainAttrs_list PySem.F.slot_list_append PySem.F.type_list_append mt_append (pv 3) (pa_cons (pe_lst (pa_cons (pe_call (ok__law_take T) (hr.mono (by decide)) (by rfl) T.g__law_take T.F__law_take.kp (b__law_take T) .nil pass0 (pa_cons (pv 0) (pa_cons (pv 1) pa_nil))) pa_nil)) pa_nil)))) (pss_one (ps_expr (pe_bm PySem.F.plainAttrs_list PySem.F.slot_list_append PySem.F.type_list_append mt_append (pv 3) (pa_cons (pe_call (ok__law_words T) (hr.mono (by decide)) (by rfl) T.g__law_words T.F__law_words.kp (b__law_words T) .nil pass0 (pa_cons (pv 0) (pa_cons (pv 1) (pa_cons (pv 2) pa_nil)))) pa_nil)))))))
      (pss_one (ps_ret (pv 3))))), ?_⟩
    have p1 : 2 ≤ (2 : Nat) ^ n := by
      have : (2 : Nat) ^ 1 ≤ 2 ^ n := Nat.pow_le_pow_right (by decide) h1
      omega
    refine sq (s_setN e (en_lst ead_nil (by decide)) fun p vs G1 H1 g1 hp gp h2 ra => ?_)
    cases ra
    have hpb : p ≠ b := fun z => by
      subst z
      obtain ⟨o, z2⟩ := hbox.at_
      rw [z2] at hp; cases hp
    refine sq (Mu.s_forR n g1.i (ea_cons (ev_var rfl) ea_nil) (by omega) (fun i σ' H' => lrowsI K G H b p n least i σ' H') (fun H2 e2 => ⟨G1, [], [], none, rfl, (g1.more e2).b, hbox.mono g1.g (g1.h.trans e2), gp, e2 _ _ h2, .nil, rfl, fun x hx => nomatch hx⟩) ?_ ?_)
    · rintro i σ' H' hi ⟨G', ws, m, u, rfl, g, hbx, gp', hp', ra, hlen, hm⟩
      have gb' : G' b = none := g.out gb hbox.at_
      refine s_ifB g.i gb' hbx (et_bN (f := fun d => decide (V.int (d : Int) = V.int 1)) (eb_opN' (eb_take (m := 3) rfl ev_c (by decide) (by decide)) (fun _ _ => ev_c) (fun d => .bl (decide (V.int (d : Int) = V.int 1))) fun d _ H Q q => ⟨rfl, q⟩)) (fun _ G2 H2 g2 hb2 => ?_) (fun _ G2 H2 g2 hb2 => ?_)
      · refine lrows_app (m := m) hp gb hbox.at_ hpb (g.trans gb hbox.at_ g2 hbx.at_) hb2 (g2.n _ _ hp' gp') (g2.h _ _ hp' hpb) (ra.mono g2.g) hlen (by omega) hm (EvB.imp (EvBN.d (ebn_lst1 (eb_take rfl (ev_var rfl) (by omega) (by omega)))) fun r hP => ?_) fun _ _ z => z
        obtain ⟨rs, ⟨d, hd, rfl⟩, rfl⟩ := hP
        refine ⟨2 ^ d, ?_, Nat.pow_lt_pow_right (by decide) hd, by rw [bits_pow]; rfl⟩
        have := Nat.two_pow_pos d
        omega
      · refine lrows_app (m := m) hp gb hbox.at_ hpb (g.trans gb hbox.at_ g2 hbx.at_) hb2 (g2.n _ _ hp' gp') (g2.h _ _ hp' hpb) (ra.mono g2.g) hlen (by omega) hm (EvB.imp (EvBN.d (ebn_call (P := fun rs => ∃ mask, least ≤ mask ∧ mask < 2 ^ n ∧ rs = (bitsN mask).map nI) rfl (ead_cons (Ev.d (ev_var rfl)) (ead_cons (Ev.d (ev_var rfl)) ead_nil)) fun ws G3 e3 ra3 => ?_)) fun r hP => ?_) fun _ _ z => z
        · obtain ⟨x, y, rfl, hx, hy⟩ := ra2 ra3
          obtain rfl : x = V.int (n : Int) := hx
          obtain rfl : y = V.int (least : Int) := hy
          exact ⟨n, least, rfl, hn, by omega, rfl⟩
        · obtain ⟨rs, ⟨x, h1, h2, rfl⟩, rfl⟩ := hP
          exact ⟨x, h1, h2, rfl⟩
    · rintro σ' H' ⟨G', ws, m, u, rfl, g, hbx, gp', hp', ra, hlen, hm⟩
      refine s_retE (Ex.refl H') (ev_var rfl) fun H4 e4 => ?_
      exact k _ p ws G' H4 ⟨m, ⟨hlen, fun x hx => (hm x hx).2⟩, fun x hx => (hm x hx).1, rfl⟩ (g.more e4) (hbx.mono (Ex.refl _) e4) hp gp' (e4 _ _ hp') ra

theorem c_lrows (T : Tx P K mg) {M : List Re} {κ : KV} {b : Addr} {n least : Nat} (hk : M[0]? = some (boxR K b)) (h1 : 1 ≤ n) (h6 : n ≤ 6) (hl : least ≤ 1) (k : ∀ m, Wf n m → (∀ x ∈ m, least ≤ x) → κ (rLL K (m.map bitsN)) M) : CM (spBN K (R_lrows K)) [rV (.ref b), nI n, nI least] M κ := c_BNf K 0 hk (fun ws G ra => by
  obtain ⟨x, y, rfl, hx, hy⟩ := ra2 ra
  obtain rfl : x = V.int (n : Int) := hx
  obtain rfl : y = V.int (least : Int) := hy
  exact ⟨n, least, rfl, h1, h6, hl, rfl⟩) fun ss h => by
  obtain ⟨m, w, hm, rfl⟩ := h
  exact k m w hm
theorem o_lrows (T : Tx P K mg) {M : List Re} {κ : KV} {b : Addr} {n least : Nat} (hk : M[0]? = some (boxR K b)) (h1 : 1 ≤ n) (h6 : n ≤ 6) (hl : least ≤ 1) (k : ∀ m, Wf n m → (∀ x ∈ m, least ≤ x) → ∀ p, κ (rV (.ref p)) (M ++ [lstR p ((m.map bitsN).map (rLn K))])) : CM (spBN K (R_lrows K)) [rV (.ref b), nI n, nI least] M κ := c_BN 0 hk (fun ws G ra => by
  obtain ⟨x, y, rfl, hx, hy⟩ := ra2 ra
  obtain rfl : x = V.int (n : Int) := hx
  obtain rfl : y = V.int (least : Int) := hy
  exact ⟨n, least, rfl, h1, h6, hl, rfl⟩) fun ss h p => by
  obtain ⟨m, w, hm, rfl⟩ := h
  exact k m w hm p
local macro_rules | `(tactic| wtm_at "co") => `(tactic| refine o_lrows (by assumption) rfl (by wtm_at "s") (by wtm_at "s") (by wtm_at "s") ?_)
local macro_rules | `(tactic| wtm_at "c") => `(tactic| refine c_lrows (by assumption) rfl (by wtm_at "s") (by wtm_at "s") (by wtm_at "s") ?_)
theorem sc__law_is_int : FnScope ["_law_value"] ["_law_value"] (defScope s__law_is_int) := ⟨rfl, rfl, rfl, by decide +kernel, rfl, by decide +kernel, by decide +kernel⟩
theorem b__law_is_int (T : Tx P K mg) : Binds K T.fd__law_is_int ["_law_value"] [] := T.F__law_is_int.bindsN fun _ _ _ _ _ _ us hl => match us, hl with | [_], _ => rfl
def R_is_int : List V → Hp → Rp → Prop := fun vs _ r => ∃ v : V, vs = [v] ∧ ((∃ i : Int, v = .int i ∧ r = rB true) ∨ (∃ s : Str, v = .str s ∧ r = rB false))
theorem R_is_int_i {G : Hp} (i : Int) : R_is_int [.int i] G (rB true) := ⟨_, rfl, .inl ⟨i, rfl, rfl⟩⟩
theorem R_is_int_s {G : Hp} (s : Str) : R_is_int [.str s] G (rB false) := ⟨_, rfl, .inr ⟨s, rfl, rfl⟩⟩
theorem ok__law_is_int (T : Tx P K mg) : FnOk P w K mg base CX0 1 T.f__law_is_int T.fd__law_is_int ["_law_value"] (spD R_is_int) := by
  refine T.F__law_is_int.ok sc__law_is_int (fun vs H Q E h => ?_) (fun cdv A outer s H vs Q E hr h => ?_)
  · obtain ⟨G, r, _, ⟨i, rfl, _⟩, _⟩ := h
    rfl
  · obtain ⟨G, r, e, ⟨v, rfl, ⟨i, rfl, rfl⟩ | ⟨i, rfl, rfl⟩⟩, k⟩ := h
    · refine ⟨_, PSs.nox (pss_one (ps_ret (pe_and (pe_callB (call_isiK K) (by rfl) T.m_isinstance (by decide +kernel) (pa_cons (pv 0) (pa_cons (pe_bltn (v := .ty "int") (by rfl) T.m_int (by decide +kernel) rfl) pa_nil))) (pe_one (pe_not (pe_callB (call_isiK K) (by rfl) T.m_isinstance (by decide +kernel) (pa_cons (pv 0) (pa_cons (pe_bltn (v := .ty "bool") (by rfl) T.m_bool (by decide +kernel) rfl) pa_nil)))))))), ?_⟩
      refine s_retE e (ev_andV (is_int (ev_var rfl)) fun _ => ev_notV (is_bool_int (ev_var rfl))) fun H1 e1 => k _ G H1 ((Gr.refl e).more e1) rfl
    · refine ⟨_, PSs.nox (pss_one (ps_ret (pe_and (pe_callB (call_isiK K) (by rfl) T.m_isinstance (by decide +kernel) (pa_cons (pv 0) (pa_cons (pe_bltn (v := .ty "int") (by rfl) T.m_int (by decide +kernel) rfl) pa_nil))) (pe_one (pe_not (pe_callB (call_isiK K) (by rfl) T.m_isinstance (by decide +kernel) (pa_cons (pv 0) (pa_cons (pe_bltn (v := .ty "bool") (by rfl) T.m_bool (by decide +kernel) rfl) pa_nil)))))))), ?_⟩
      have is_int_str : ∀ {σ : L2.St} {G : Hp}, σ[0]? = some (some (V.str i)) → Ev (tCB (rIsi K) (tCons (tVar 0) (tCons (tC (.ty "int")) tNil))) σ G (.bl false) := fun h => ev_isi (Ev.d (ev_var h)) (.ty _) fun v H hv => ⟨_, by obtain rfl : v = V.str i := hv; exact .base (.str i), kit_ty (by decide +kernel)⟩
      refine s_retE e (ev_andV (b := false) (is_int_str rfl) fun h => nomatch h) fun H1 e1 => k _ G H1 ((Gr.refl e).more e1) rfl

theorem c_is_int (T : Tx P K mg) {M : List Re} {κ : KV} {a : Int} (k : κ (rB true) M) : CM (spD R_is_int) [Mu.rI a] M κ := cm (fun vs G ra => by
  obtain ⟨x, rfl, hx⟩ := ra1 ra
  obtain rfl : x = V.int a := hx
  exact SpD.of (R_is_int_i a)) k
theorem c_is_intS (T : Tx P K mg) {M : List Re} {κ : KV} {a : Str} (k : κ (rB false) M) : CM (spD R_is_int) [rV (.str a)] M κ := cm (fun vs G ra => by
  obtain ⟨x, rfl, hx⟩ := ra1 ra
  obtain rfl : x = V.str a := hx
  exact SpD.of (R_is_int_s a)) k
local macro_rules | `(tactic| wtm_at "c") => `(tactic| refine c_is_int (by assumption) ?_)
local macro_rules | `(tactic| wtm_at "c") => `(tactic| refine c_is_intS (by assumption) ?_)
theorem sc__law_is_words : FnScope ["_law_value", "_law_one"] ["_law_value"] (defScope s__law_is_words) := ⟨rfl, rfl, rfl, by decide +kernel, rfl, by decide +kernel, by decide +kernel⟩
theorem b__law_is_words (T : Tx P K mg) : Binds K T.fd__law_is_words ["_law_value"] [] := T.F__law_is_words.bindsN fun _ _ _ _ _ _ us hl => match us, hl with | [_], _ => rfl
def R_is_words (K : PySem.W.Frag) : List V → Hp → Rp → Prop := fun vs G r => ∃ (x : V) (l : List Nat), vs = [x] ∧ (rLn K l).p x G ∧ r = rB true
theorem ok__law_is_words (T : Tx P K mg) : FnOk P w K mg base CX0 2 T.f__law_is_words T.fd__law_is_words ["_law_value"] (spD (R_is_words K)) := by
  refine T.F__law_is_words.ok sc__law_is_words (fun vs H Q E h => ?_) (fun cdv A outer s H vs Q E hr h => ?_)
  · obtain ⟨G, r, _, ⟨x, l, rfl, _⟩, _⟩ := h
    rfl
  · obtain ⟨G, r, e, ⟨x, l, rfl, hx, rfl⟩, k⟩ := h
    refine ⟨_, PSs.nox (pss_cons (ps_if (pt_not (pt_val (pe_callB (call_isiK K) (by rfl) T.m_isinstance (by decide +kernel) (pa_cons (pv 0) (pa_cons (pe_bltn (v := .ty "list") (by rfl) T.m_list (by decide +kernel) rfl) pa_nil))))) (pss_one (ps_ret pe_bl)) pss_nil)
      (pss_cons (ps_for PassesOwn.never rfl (pi_listK K (pv 0)) (pg_name (i := 1) sc__law_is_words.nd rfl (Or.inl rfl)) (pss_one (ps_if (pt_not (pt_val (pe_call (ok__law_is_int T) (hr.mono (by decide)) (by rfl) T.g__law_is_int T.F__law_is_int.kp (b__law_is_int T) .nil pass0 (pa_cons (pv 1) pa_nil)))) (pss_one (ps_ret pe_bl)) pss_nil)))
      (pss_one (ps_ret pe_bl)))), ?_⟩
    refine sq (s_ifE e (et_not (et_B (is_list (ed_var rfl hx)))) (fun hb H1 e1 => ?_) (fun hb H1 e1 => ?_))
    · cases hb
    refine nxt ?_
    dsimp only
    refine sq (Mu.s_forL l nI (e.trans e1) (ed_var rfl hx) (fun G1 i σ' H' => Ex G1 H' ∧ Ex H H' ∧ ∃ u, σ' = [some x, u]) (fun G1 H2 g => ⟨g.i, e1.trans g.h, none, rfl⟩) (fun _ _ _ _ p => p.1) ?_ ?_)
    · rintro G1 i w y σ' H' eG hi hy ⟨e2, e3, u, rfl⟩
      obtain rfl : y = V.int (w : Int) := hy
      refine s_ifE (Ex.refl H') (et_not (et_B (ev_callD (v := .bl true) (ead_cons (Ev.d (ev_var rfl)) ead_nil) fun vs G2 e4 ra => ?_))) (fun hb H4 e4 => ?_) (fun hb H4 e4 => ?_)
      · obtain ⟨z, rfl, hz⟩ := ra1 ra
        obtain rfl : z = V.int (w : Int) := hz
        exact SpD.of (R_is_int_i _)
      · cases hb
      · exact nxt ⟨e2.trans e4, e3.trans e4, _, rfl⟩
    · rintro G1 σ' H' eG ⟨e2, e3, u, rfl⟩
      dsimp only
      refine s_retE (v := .bl true) (Ex.refl H') ev_c fun H4 e4 => ?_
      exact k _ G H4 ((Gr.refl e).more (e3.trans e4)) rfl

theorem c_is_words (T : Tx P K mg) {M : List Re} {κ : KV} {l : List Nat} (k : κ (rB true) M) : CM (spD (R_is_words K)) [rLn K l] M κ := cm (fun vs G ra => by
  obtain ⟨x, rfl, hx⟩ := ra1 ra
  exact SpD.of ⟨x, l, rfl, hx, rfl⟩) k
local macro_rules | `(tactic| wtm_at "c") => `(tactic| refine c_is_words (by assumption) ?_)
theorem sc__law_same : FnScope ["_law_table", "_law_rows_here", "_law_told", "_law_k"] ["_law_table", "_law_rows_here"] (defScope s__law_same) := ⟨rfl, rfl, rfl, by decide +kernel, rfl, by decide +kernel, by decide +kernel⟩
theorem b__law_same (T : Tx P K mg) : Binds K T.fd__law_same ["_law_table", "_law_rows_here"] [] := T.F__law_same.bindsN fun _ _ _ _ _ _ us hl => match us, hl with | [_, _], _ => rfl
def R_same (K : PySem.W.Frag) (C : Addr) : List V → Hp → Rp → Prop := fun vs G r => ∃ (x y : V) (m : List Nat), vs = [x, y] ∧ (rTab K C m).p x G ∧ (rLL K (m.map bitsN)).p y G ∧ m.length ≤ 1000 ∧ (∀ q ∈ m, q < 2 ^ 64) ∧ r = rB true
theorem ok__law_same (T : Tx P K mg) : FnOk P w K mg base CX0 3 T.f__law_same T.fd__law_same ["_law_table", "_law_rows_here"] (spD (R_same K T.C_Table)) := by
  refine T.F__law_same.ok sc__law_same (fun vs H Q E h => ?_) (fun cdv A outer s H vs Q E hr h => ?_)
  · obtain ⟨G, r, _, ⟨x, y, m, rfl, _⟩, _⟩ := h
    rfl
  · obtain ⟨G, r, e, ⟨x, y, m, rfl, hx, hy, hn, hw, rfl⟩, k⟩ := h
    have hlen : ((m.map bitsN).map (rLn K)).length = m.length := by rw [List.length_map, List.length_map]
    refine ⟨_, PSs.nox (pss_cons (ps_if (PW.pt (pw_or (pt_not (pt_val (pe_callB (call_isiK K) (by rfl) T.m_isinstance (by decide +kernel) (pa_cons (pv 0) (pa_cons (pe_glob (v := .ref T.C_Table) (by rfl) T.g_Table rfl) pa_nil))))) (pw_or (pt_not (pt_val (pe_call (ok__law_is_int T) (hr.mono (by decide)) (by rfl) T.g__law_is_int T.F__law_is_int.kp (b__law_is_int T) .nil pass0 (pa_cons (pe_fldK K (pv 0)) pa_nil)))) (pw_or1 (pt_cmpR op_ne (pe_fldK K (pv 0)) (pe_callB (call_lenK K) (by rfl) T.m_len PySem.boot_len (pa_cons (pv 1) pa_nil)) (nomark _)))))) (pss_one (ps_ret pe_bl)) pss_nil)
      (pss_cons (ps_set (i := 2) sc__law_same.nd rfl (Or.inl rfl) (pe_meth0 (pv 0) T.c_Table T.M_Table_rows (ok_Table_rows T) (hr.mono (by decide)) (b_Table_rows T) .nil pass0))
      (pss_cons (ps_if (PW.pt (pw_or (pt_not (pt_val (pe_callB (call_isiK K) (by rfl) T.m_isinstance (by decide +kernel) (pa_cons (pv 2) (pa_cons (pe_bltn (v := .ty "list") (by rfl) T.m_list (by decide +kernel) rfl) pa_nil))))) (pw_or1 (pt_cmpR op_ne (pe_callB (call_lenK K) (by rfl) T.m_len PySem.boot_len (pa_cons (pv 2) pa_nil)) (pe_callB (call_lenK K) (by rfl) T.m_len PySem.boot_len (pa_cons (pv 1) pa_nil)) (nomark _))))) (pss_one (ps_ret pe_bl)) pss_nil)
      (pss_cons (ps_for PassesOwn.never rfl (pi_range1 (by rfl) T.m_range (pa_cons (pe_callB (call_lenK K) (by rfl) T.m_len PySem.boot_len (pa_cons (pv 1) pa_nil)) pa_nil)) (pg_name (i := 3) sc__law_same.nd rfl (Or.inl rfl)) (pss_one (ps_if (PW.pt (pw_or (pt_not (pt_val (pe_call (ok__law_is_words T) (hr.mono (by decide)) (by rfl) T.g__law_is_words T.F__law_is_words.kp (b__law_is_words T) .nil pass0 (pa_cons (pe_ix (ix_listK K) (pv 2) (pv 3) (fun _ _ => rfl)) pa_nil)))) (pw_or1 (pt_cmpR (op_neK K hr.units) (pe_ix (ix_listK K) (pv 2) (pv 3) (fun _ _ => rfl)) (pe_ix (ix_listK K) (pv 1) (pv 3) (fun _ _ => rfl)) (nomark _))))) (pss_one (ps_ret pe_bl)) pss_nil)))
      (pss_one (ps_ret pe_bl)))))), ?_⟩
    refine sq (s_ifE (b := false) e (et_is (et_or (et_not (et_B (is_tab T.ic_Table (ed_var rfl hx)))) fun _ => et_or (et_not (et_B (ev_callD (v := .bl true) (ead_cons (Ev.d (ev_size (ed_var rfl hx) T.c_Table T.na_Table_size)) ead_nil) fun vs G2 e4 ra => ?_))) fun _ => et_ne (ev_size (ed_var rfl hx) T.c_Table T.na_Table_size) (ev_lenL (ed_var rfl hy) hlen) rfl) (by simp)) (fun hb H1 e1 => ?_) (fun hb H1 e1 => ?_))
    · obtain ⟨z, rfl, hz⟩ := ra1 ra
      obtain rfl : z = V.int (m.length : Int) := hz
      exact SpD.of (R_is_int_i _)
    · cases hb
    refine nxt ?_
    dsimp only
    refine sq (s_setN (e.trans e1) (en_meth (C := T.C_Table) (ed_var rfl hx) (by decide +kernel) fun v G2 e2 hv => SpN.of ⟨v, m, rfl, hv, hn, hw, rfl⟩) fun p vs G2 H2 g hp gp h2 ra => ?_)
    have eP : Ex (upd G2 p (.lst vs)) H2 := ex_add g.i h2
    have eG : Ex G (upd G2 p (.lst vs)) := g.g.trans (Ex.new gp)
    have ht : (rLL K (m.map bitsN)).p (.ref p) (upd G2 p (.lst vs)) := ⟨p, vs, rfl, upd_same, ra.mono (Ex.new gp)⟩
    have hy2 := (rLL K (m.map bitsN)).mono eG hy
    refine sq (s_ifE (b := false) eP (et_is (et_or (et_not (et_B (is_list (ed_var rfl ht)))) fun _ => et_ne (ev_lenL (ed_var rfl ht) hlen) (ev_lenL (ed_var rfl hy2) hlen) rfl) (by simp)) (fun hb H3 e3 => ?_) (fun hb H3 e3 => ?_))
    · cases hb
    refine nxt ?_
    dsimp only
    refine sq (Mu.s_forR m.length (eP.trans e3) (ea_cons (ev_lenL (ed_var rfl hy2) hlen) ea_nil) (by omega) (fun i σ' H' => Ex H3 H' ∧ ∃ u, σ' = [some x, some y, some (.ref p), u]) (fun H4 e4 => ⟨e4, none, rfl⟩) ?_ ?_)
    · rintro i σ' H' hi ⟨e4, u, rfl⟩
      have e5 : Ex (upd G2 p (.lst vs)) H' := (eP.trans e3).trans e4
      have hget : ((m.map bitsN).map (rLn K))[i]? = some (rLn K (bitsN (m.getD i 0))) := by
        rw [List.map_map, List.getElem?_map, List.getD_eq_getElem?_getD, List.getElem?_eq_getElem hi]; rfl
      have h1 : EvD (tOp (rIxL K) (tVar 2) (tVar 3)) [some x, some y, some (.ref p), some (.int (i : Int))] (upd G2 p (.lst vs)) (rLn K (bitsN (m.getD i 0))) := ed_ixL (ed_var rfl ht) (ev_var rfl) hget
      have h2' : EvD (tOp (rIxL K) (tVar 1) (tVar 3)) [some x, some y, some (.ref p), some (.int (i : Int))] (upd G2 p (.lst vs)) (rLn K (bitsN (m.getD i 0))) := ed_ixL (ed_var rfl hy2) (ev_var rfl) hget
      refine s_ifE (b := false) e5 (et_is (et_or (et_not (et_B (ev_callD (v := .bl true) (ead_cons h1 ead_nil) fun vs G2 e4 ra => ?_))) fun _ => et_neLn h1 h2') (by simp)) (fun hb H4 e6 => ?_) (fun hb H4 e6 => ?_)
      · obtain ⟨z, rfl, hz⟩ := ra1 ra
        exact SpD.of ⟨z, _, rfl, hz, rfl⟩
      · cases hb
      · exact nxt ⟨e4.trans e6, _, rfl⟩
    · rintro σ' H' ⟨e4, u, rfl⟩
      dsimp only
      refine s_retE (v := .bl true) (Ex.refl H') ev_c fun H5 e5 => ?_
      exact k _ G H5 ((Gr.refl e).more ((e1.trans g.h).trans ((e3.trans e4).trans e5))) rfl

theorem x_same (T : Tx P K mg) {Γ : Mu.Ctx} {ta tb : TE} {E : XK} {m : List Nat} {n : Nat} (ha : EvX Γ ta (rTab K T.C_Table m)) (hb : EvX Γ tb (rLL K (m.map bitsN))) (wm : Wf n m) (h6 : n ≤ 6) : EvX Γ (tCall (spD (R_same K T.C_Table)) [] E (tCons ta (tCons tb tNil))) (rB true) := x_call (xa_cons ha (xa_cons hb xa_nil)) fun vs G ra => by
  obtain ⟨a, b, rfl, ha, hb⟩ := ra2 ra
  exact SpD.of ⟨a, b, m, rfl, ha, hb, by rw [wm.len]; omega, fun q hq => Nat.lt_of_lt_of_le (wm.lt q hq) (Nat.pow_le_pow_right (by decide) (by omega)), rfl⟩

theorem c_same (T : Tx P K mg) {M : List Re} {κ : KV} {m : List Nat} {n : Nat} (wm : Wf n m) (h6 : n ≤ 6) (k : κ (rB true) M) : CM (spD (R_same K T.C_Table)) [rTab K T.C_Table m, rLL K (m.map bitsN)] M κ := cm (fun vs G ra => by
  obtain ⟨a, b, rfl, ha, hb⟩ := ra2 ra
  exact SpD.of ⟨a, b, m, rfl, ha, hb, by rw [wm.len]; omega, fun q hq => Nat.lt_of_lt_of_le (wm.lt q hq) (Nat.pow_le_pow_right (by decide) (by omega)), rfl⟩) k
local macro_rules | `(tactic| wtm_at "c") => `(tactic| refine c_same _ (by assumption) (by wtm_at "s") ?_)
theorem sc__law_join : FnScope ["_law_first", "_law_last", "_law_found", "_law_row", "_law_outs", "_law_mid", "_law_out", "_law_word"] ["_law_first", "_law_last"] (defScope s__law_join) := ⟨rfl, rfl, rfl, by decide +kernel, rfl, by decide +kernel, by decide +kernel⟩
theorem b__law_join (T : Tx P K mg) : Binds K T.fd__law_join ["_law_first", "_law_last"] [] := T.F__law_join.bindsN fun _ _ _ _ _ _ us hl => match us, hl with | [_, _], _ => rfl
def R_join (K : PySem.W.Frag) : List V → Hp → List Rp → Prop := fun vs G rs => ∃ (x y : V) (F M : List Nat) (n : Nat), vs = [x, y] ∧ (rLL K (F.map bitsN)).p x G ∧ (rLL K (M.map bitsN)).p y G ∧ Wf n F ∧ Wf n M ∧ n ≤ 6 ∧ rs = ((prodN F M).map bitsN).map (rLn K)
theorem ok__law_join (T : Tx P K mg) : FnOk P w K mg base CX0 1 T.f__law_join T.fd__law_join ["_law_first", "_law_last"] (spN (R_join K)) := by
  refine T.F__law_join.ok sc__law_join (fun vs H Q E h => ?_) (fun cdv A outer s H vs Q E hr h => ?_)
  · obtain ⟨G, rs, _, ⟨x, y, F, M, n, rfl, _⟩, _⟩ := h
    rfl
  · obtain ⟨G, rs, e, ⟨x, y, F, M, n, rfl, hx, hy, wf, wm, h6, rfl⟩, k⟩ := h
    refine ⟨_, PSs.nox (pss_cons (ps_set (i := 2) sc__law_join.nd rfl (Or.inl rfl) (pe_lst pa_nil))
      (pss_cons (ps_for PassesOwn.never rfl (pi_listK K (pv 0)) (pg_name (i := 3) sc__law_join.nd rfl (Or.inl rfl)) (pss_cons (ps_set (i := 4) sc__law_join.nd rfl (Or.inr rfl) (pe_lst pa_nil))
      (pss_cons (ps_for PassesOwn.never rfl (pi_listK K (pv 3)) (pg_name (i := 5) sc__law_join.nd rfl (Or.inl rfl)) (pss_one (ps_set (i := 4) sc__law_join.nd rfl (Or.inr rfl) (pe_op op_cat (pv 4) (pe_lc (own := [("_law_out", 6)]) (by rfl) sc__law_join.nd (pi_listK K (pe_ix (ix_listK K) (pv 1) (pv 5) (fun _ _ => rfl))) (blkOk_by (N := ["_law_first", "_law_last", "_law_found", "_law_row", "_law_outs", "_law_mid", "_law_out", "_law_word"]) (sc := defScope s__law_join) (by decide +kernel)) (fun _ _ _ _ _ => (pg_name (i := 6) sc__law_join.nd rfl (Or.inl rfl))) (fun _ _ _ _ _ => (pts_one (pt_cmpR (op_notInK K) (pv 6) (pv 4) rfl))) (fun _ _ _ _ _ => (pv 6)))))))
      (pss_one (ps_expr (pe_bm PySem.F.plainAttrs_list PySem.F.slot_list_append PySem.F.type_list_append mt_append (pv 2) (pa_cons (pe_lc (own := [("_law_word", 7)]) (by rfl) sc__law_join.nd (pi_range1 (by rfl) T.m_range (pa_cons (pe_callB (call_lenK K) (by rfl) T.m_len PySem.boot_len (pa_cons (pv 1) pa_nil)) pa_nil)) (blkOk_by (N := ["_law_first", "_law_last", "_law_found", "_law_row", "_law_outs", "_law_mid", "_law_out", "_law_word"]) (sc := defScope s__law_join) (by decide +kernel)) (fun _ _ _ _ _ => (pg_name (i := 7) sc__law_join.nd rfl (Or.inl rfl))) (fun _ _ _ _ _ => (pts_one (pt_cmpR (op_inK K) (pv 7) (pv 4) rfl))) (fun _ _ _ _ _ => (pv 7))) pa_nil)))))))
      (pss_one (ps_ret (pv 2))))), ?_⟩
    have lenM : ((M.map bitsN).map (rLn K)).length = n := by rw [List.length_map, List.length_map, wm.len]
    have getM : ∀ i, i < n → ((M.map bitsN).map (rLn K))[i]? = some (rLn K (bitsN (M.getD i 0))) := fun i hi => by
      rw [List.map_map, List.getElem?_map, List.getD_eq_getElem?_getD, List.getElem?_eq_getElem (by rw [wm.len]; exact hi)]; rfl
    refine sq (s_setN e (en_lst ead_nil (by decide)) fun pf vs G1 H1 g1 hpf gpf h1 ra => ?_)
    cases ra
    refine sq (Mu.s_forL (F.map bitsN) (rLn K) g1.i (ed_var rfl ((rLL K _).mono g1.g hx)) (fun G2 i σ' H' => ∃ G' ws u1 u2 u3 u4 u5, σ' = [some x, some y, some (.ref pf), u1, u2, u3, u4, u5] ∧ Ex G2 H' ∧ G2 pf = none ∧ Gr G H G' H' ∧ G' pf = none ∧ H' pf = some (.lst ws) ∧ RA G' ws (((prodN (F.take i) M).map bitsN).map (rLn K))) (fun G2 H2 g2 => ⟨G2, [], _, _, _, _, _, rfl, g2.i, g2.n _ _ h1 gpf, g1.trans g2, g2.n _ _ h1 gpf, g2.h _ _ h1, .nil⟩) (fun _ _ _ _ q => by obtain ⟨_, _, _, _, _, _, _, _, q, _⟩ := q; exact q) ?_ ?_)
    · rintro G2 i row z σ' H' eG2 hi hz ⟨G', ws, u1, u2, u3, u4, u5, rfl, e2, g2p, g, gp, hp, ra⟩
      obtain ⟨fm, hfm, rfl⟩ : ∃ fm, F[i]? = some fm ∧ bitsN fm = row := by
        rw [List.getElem?_map] at hi
        cases q : F[i]? with
        | none => rw [q] at hi; cases hi
        | some fm => rw [q] at hi; exact ⟨fm, rfl, Option.some.inj hi⟩
      have hlt : fm < 2 ^ n := wf.lt fm (List.mem_of_getElem? hfm)
      have hfl := bits_len hlt
      refine sq (s_setD g.i (EvN.d (K := K) (rs := ([] : List Nat).map nI) (en_lst ead_nil (by decide))) fun q G3 H3 g3 hq => ?_)
      refine sq (Mu.s_forL (G := G2) (bitsN fm) nI (e2.trans g3.h) (ed_var rfl hz) (fun G4 j σ' H' => Ex G4 H' ∧ ∃ G'' q l v w u, σ' = [some x, some y, some (.ref pf), some z, some q, v, w, u] ∧ Ex H3 H' ∧ Gr G H G'' H' ∧ Ex G' G'' ∧ G'' pf = none ∧ (rLn K l).p q G'' ∧ l.length ≤ j * 6 ∧ ∀ o, o ∈ l ↔ ∃ m ∈ (bitsN fm).take j, o ∈ bitsN (M.getD m 0)) (fun G4 H4 g4 => ⟨g4.i, G3, q, [], _, _, _, rfl, g4.h, (g.trans g3).more g4.h, g3.g, g3.n _ _ hp gp, hq, Nat.zero_le _, fun o => by simp⟩) (fun _ _ _ _ q => q.1) ?_ ?_)
      · rintro G4 j m zz σ' H' eG4 hj hzz ⟨e4, G'', q, l, v, w, u, rfl, eH, g'', eG, gp'', hq, hll, hmem⟩
        obtain rfl : zz = V.int (m : Int) := hzz
        have hm : m < n := bit_lt hlt (mem_bits.mp (List.mem_of_getElem? hj))
        have hjl : j < (bitsN fm).length := (List.getElem?_eq_some_iff.mp hj).1
        have hbl := bits_len (wm.get m)
        have hfl2 := List.length_filter_le (fun o => !decide (o ∈ l)) (bitsN (M.getD m 0))
        refine s_setD g''.i (EvN.d (K := K) (en_cat (K := K) (ed_var rfl hq) (EvN.d (K := K) (en_lcL (bitsN (M.getD m 0)) nI (fun o => !decide (o ∈ l)) nI (ed_ixL (ed_var rfl ((rLL K _).mono g''.g hy)) (ev_var rfl) (getM m hm)) (by omega) (fun _ => rfl) (fun o zz G5 ho e5 hzz => ?_) (fun o zz G5 ho _ e5 hzz => ed_var rfl hzz))) ?_)) fun q' G6 H6 g6 hq' => ?_
        · obtain rfl : zz = V.int (o : Int) := hzz
          exact et_notIn (ev_var rfl) (ed_var rfl ((rLn K _).mono e5 hq))
        · rw [List.length_map, List.length_map]
          omega
        · refine ⟨e4.trans g6.h, G6, q', l ++ (bitsN (M.getD m 0)).filter (fun o => !decide (o ∈ l)), _, _, _, rfl, eH.trans g6.h, g''.trans g6, eG.trans g6.g, g6.n _ _ (eH _ _ (g3.h _ _ hp)) gp'', ?_, ?_, fun o => ?_⟩
          · unfold rLn
            rw [List.map_append]
            exact hq'
          · rw [List.length_append, Nat.succ_mul]
            omega
          · rw [List.mem_append, List.mem_filter, List.take_add_one, hj]
            constructor
            · rintro (h | ⟨h, _⟩)
              · obtain ⟨m', a1, a2⟩ := (hmem o).mp h
                exact ⟨m', List.mem_append.mpr (.inl a1), a2⟩
              · exact ⟨m, List.mem_append.mpr (.inr (by simp)), h⟩
            · rintro ⟨m', a1, a2⟩
              rcases List.mem_append.mp a1 with a1 | a1
              · exact .inl ((hmem o).mpr ⟨m', a1, a2⟩)
              · have e : m' = m := by simpa using a1
                subst e
                by_cases c : o ∈ l
                · exact .inl c
                · exact .inr ⟨a2, by simp [c]⟩
      · rintro G4 σ' H' eG4 ⟨e4, G'', q, l, v, w, u, rfl, eH, g'', eG, gp'', hq, hll, hmem⟩
        rw [List.take_length] at hmem
        dsimp only
        refine s_appD (K := K) (r := rLn K (bitsN (imageN M fm))) g''.i (eH _ _ (g3.h _ _ hp)) gp'' (ra.mono eG) (ev_var rfl) (ed_is (EvN.d (K := K) (en_lcR n (fun o => decide (o ∈ l)) nI (ea_cons (ev_lenL (ed_var rfl ((rLL K _).mono g''.g hy)) lenM) ea_nil) (by omega) (fun _ => rfl) (fun o Gt ho et => et_in (ev_var rfl) (ed_var rfl ((rLn K _).mono et hq))) (fun o Gt ho _ et => Ev.d (ev_var rfl)))) ?_) ?_ fun ws' G10 H10 e10 k10 i10 n10 gp10 hp10 ra10 => ?_
        · rw [← bits_eq (imageN_lt wm fm)]
          refine congrArg (rLn K) (List.filter_congr fun o ho => ?_)
          rw [Bool.eq_iff_iff, decide_eq_true_iff, imageN_bit, hmem o]
          constructor
          · rintro ⟨m, hm, hb⟩
            exact ⟨m, by rw [wm.len]; exact bit_lt hlt (mem_bits.mp hm), mem_bits.mp hm, mem_bits.mp hb⟩
          · rintro ⟨m, _, hm, hb⟩
            exact ⟨m, mem_bits.mpr hm, mem_bits.mpr hb⟩
        · unfold prodN
          rw [List.length_map, List.length_map, List.length_map, List.length_take, wf.len]
          omega
        · refine ⟨G10, ws', _, _, _, _, _, rfl, fun a o z => k10 a o (eH a o (g3.h a o (e2 a o z))) (fun c => by subst c; rw [g2p] at z; cases z), g2p, ⟨g''.g.trans e10, fun a o z => k10 a o (g''.h a o z) (ne_of_none z hpf), i10, fun a o z y => n10 a o (g''.h a o z) (g''.n a o z y)⟩, gp10, hp10, ?_⟩
          rw [prodN_take hfm, List.map_append, List.map_append]
          exact ra10
    · rintro G2 σ' H' eG2 ⟨G', ws, u1, u2, u3, u4, u5, rfl, e2, g2p, g, gp, hp, ra⟩
      rw [List.length_map, List.take_length] at ra
      dsimp only
      refine s_retE (Ex.refl H') (ev_var rfl) fun H4 e4 => ?_
      exact k pf ws G' H4 (g.more e4) hpf gp (e4 _ _ hp) ra

theorem c_join (T : Tx P K mg) {M : List Re} {κ : KV} {F W : List Nat} {n : Nat} (wf : Wf n F) (ww : Wf n W) (h6 : n ≤ 6) (k : κ (rLL K ((prodN F W).map bitsN)) M) : CM (spN (R_join K)) [rLL K (F.map bitsN), rLL K (W.map bitsN)] M κ := cmn (fun vs G ra => by
  obtain ⟨x, y, rfl, hx, hy⟩ := ra2 ra
  exact SpN.of ⟨x, y, F, W, n, rfl, hx, hy, wf, ww, h6, rfl⟩) k
theorem o_join (T : Tx P K mg) {M : List Re} {κ : KV} {F W : List Nat} {n : Nat} (wf : Wf n F) (ww : Wf n W) (h6 : n ≤ 6) (k : ∀ p, κ (rV (.ref p)) (M ++ [lstR p (((prodN F W).map bitsN).map (rLn K))])) : CM (spN (R_join K)) [rLL K (F.map bitsN), rLL K (W.map bitsN)] M κ := cmo (fun vs G ra => by
  obtain ⟨x, y, rfl, hx, hy⟩ := ra2 ra
  exact SpN.of ⟨x, y, F, W, n, rfl, hx, hy, wf, ww, h6, rfl⟩) k
local macro_rules | `(tactic| wtm_at "co") => `(tactic| refine o_join (by assumption) (by assumption) (by assumption) (by wtm_at "s") ?_)
local macro_rules | `(tactic| wtm_at "c") => `(tactic| refine c_join (by assumption) (by assumption) (by assumption) (by wtm_at "s") ?_)
theorem sc__law_same_rows : FnScope ["_law_n", "_law_word"] ["_law_n"] (defScope s__law_same_rows) := ⟨rfl, rfl, rfl, by decide +kernel, rfl, by decide +kernel, by decide +kernel⟩
theorem b__law_same_rows (T : Tx P K mg) : Binds K T.fd__law_same_rows ["_law_n"] [] := T.F__law_same_rows.bindsN fun _ _ _ _ _ _ us hl => match us, hl with | [_], _ => rfl
theorem bits_pow (w : Nat) : bitsN (2 ^ w) = [w] := by
  rw [← bits_eq (n := 2 ^ w) (k := w + 1) (Nat.pow_lt_pow_right (by decide) (by omega)), List.range_succ, List.filter_append]
  have e : (List.range w).filter (2 ^ w).testBit = [] := List.filter_eq_nil_iff.mpr fun a ha z => by
    rw [Nat.testBit_two_pow] at z
    have := of_decide_eq_true z
    have := List.mem_range.mp ha
    omega
  rw [e, List.nil_append, List.filter_cons, if_pos (by rw [Nat.testBit_two_pow]; simp)]
  rfl

def R_law_same_rows (T : Tx P K mg) : List V → Hp → List Rp → Prop := fun vs G r => ∃ (n : Nat), RA G vs [nI n] ∧ (n ≤ 60) ∧ r = ((idN n).map bitsN).map (rLn K)
theorem ok__law_same_rows (T : Tx P K mg) : FnOk P w K mg base CX0 1 T.f__law_same_rows T.fd__law_same_rows ["_law_n"] (spN (R_law_same_rows T)) := by
  refine T.F__law_same_rows.ok sc__law_same_rows (fun vs H Q E h => ?_) (fun cdv A outer s H vs Q E hr h => ?_)
  · obtain ⟨G, r, _, ⟨n, ra, _⟩, _⟩ := h
    exact ra.len
  · obtain ⟨G, r, e, ⟨n, ra, q0, rfl⟩, k⟩ := h
    refine ⟨_, PSs.nox (pss_one (ps_ret (pe_lc (own := [("_law_word", 1)]) (by rfl) sc__law_same_rows.nd (pi_range1 (by rfl) T.m_range (pa_cons (pv 0) pa_nil)) (blkOk_by (N := ["_law_n", "_law_word"]) (sc := defScope s__law_same_rows) (by decide +kernel)) (fun _ _ _ _ _ => (pg_name (i := 1) sc__law_same_rows.nd rfl (Or.inl rfl))) (fun _ _ _ _ _ => pts_nil) (fun _ _ _ _ _ => (pe_lst (pa_cons (pv 1) pa_nil)))))), ?_⟩
    refine run_N (W := fun _ _ _ _ => False) (Γ := [some (nI n), none]) ?_ e (En.start (k := 1) _ (rs := [nI n]) ra (by rw [ra.len]; rfl)) k
    clear ra e k
    refine ws_ret (e_n (xn_is (xn_lcR0 n (fun w => rLn K [w]) (x_v rfl) (by omega) (fun w hw => by wtm_at "x")) ?_) fun p => ⟨p, rfl, rfl⟩)
    unfold idN
    rw [List.map_map, List.map_map]
    exact List.map_congr_left fun w _ => by show rLn K [w] = rLn K (bitsN (2 ^ w)); rw [bits_pow]
theorem c_law_same_rows (T : Tx P K mg) {M : List Re} {κ : KV} {n : Nat} (q0 : n ≤ 60) (k : κ (rL K (((idN n).map bitsN).map (rLn K))) M) : CM (spN (R_law_same_rows T)) [nI n] M κ := cmn (fun vs G ra => SpN.of ⟨n, ra, q0, rfl⟩) k
theorem o_law_same_rows (T : Tx P K mg) {M : List Re} {κ : KV} {n : Nat} (q0 : n ≤ 60) (k : ∀ p, κ (rV (.ref p)) (M ++ [lstR p (((idN n).map bitsN).map (rLn K))])) : CM (spN (R_law_same_rows T)) [nI n] M κ := cmo (fun vs G ra => SpN.of ⟨n, ra, q0, rfl⟩) k
local macro_rules | `(tactic| wtm_at "co") => `(tactic| refine o_law_same_rows _ (by wtm_at "s") ?_)
local macro_rules | `(tactic| wtm_at "c") => `(tactic| refine c_law_same_rows _ (by wtm_at "s") ?_)
theorem sc__law_single : FnScope ["_law_e", "_law_kinds", "_law_kind"] ["_law_e"] (defScope s__law_single) := ⟨rfl, rfl, rfl, by decide +kernel, rfl, by decide +kernel, by decide +kernel⟩
theorem b__law_single (T : Tx P K mg) : Binds K T.fd__law_single ["_law_e"] [] := T.F__law_single.bindsN fun _ _ _ _ _ _ us hl => match us, hl with | [_], _ => rfl
theorem ok__law_single (T : Tx P K mg) : FnE P w K mg base CX0 1 T.f__law_single T.fd__law_single ["_law_e"] (spSingle K [T.C_BadSize, T.C_BadTable, T.C_UnknownWord, T.C_SizeMismatch, T.C_BadCount, T.C_BadPerson, T.C_BadLetter, T.C_UnknownPerson, T.C_TooMany, T.C_BadPattern, T.C_SameWord, T.C_UnknownClue, T.C_BadPlace, T.C_TooLong, T.C_Melted, T.C_NothingToUndo, T.C_NothingToRedo, T.C_Refused, T.C_BadLine] T.C_MurmurError) := by
  refine fn_ofE T.F__law_single sc__law_single (fun p vs H Q E h => ?_) (fun cdv A outer s H vs Q E p hot hr h => ?_)
  · obtain ⟨D, d, fs, G, rfl, _⟩ := h
    rfl
  · obtain ⟨D, d, fs, G, rfl, hz, hf, sg, e, hx, k⟩ := h
    have hotc : L2H.HotC (L2H.cxH CX0 P w K mg base ["_law_e", "_law_kinds", "_law_kind"] "_law_single" (defScope s__law_single) T.f__law_single cdv A outer s H E p).nox := ⟨p, ⟨hot.1, hot.2⟩, by show p ∈ [p]; simp⟩
    have hp : p ∈ [p] := by simp
    have cp := fun (X : Cx) (hK : X.K = K) (h : (p.1, p.2) ∈ X.pn) => call_isP (X := X) (a := p.1) (d := d) (oe := p.2) (hK ▸ sg.is) h hz hf
    refine ⟨_, PSs.nox (pss_cons (ps_set (i := 1) sc__law_single.nd rfl (Or.inl rfl) (pe_lst (pa_cons (pe_callB (cp _ rfl hp) (by rfl) T.m_isinstance (by decide +kernel) (pa_cons (pv 0) (pa_cons (pe_glob (v := .ref T.C_BadSize) (by rfl) T.g_BadSize rfl) pa_nil))) (pa_cons (pe_callB (cp _ rfl hp) (by rfl) T.m_isinstance (by decide +kernel) (pa_cons (pv 0) (pa_cons (pe_glob (v := .ref T.C_BadTable) (by rfl) T.g_BadTable rfl) pa_nil))) (pa_cons (pe_callB (cp _ rfl hp) (by rfl) T.m_isinstance (by decide +kernel) (pa_cons (pv 0) (pa_cons (pe_glob (v := .ref T.C_UnknownWord) (by rfl) T.g_UnknownWord rfl) pa_nil))) (pa_cons (pe_callB (cp _ rfl hp) (by rfl) T.m_isinstance (by decide +kernel) (pa_cons (pv 0) (pa_cons (pe_glob (v := .ref T.C_SizeMismatch) (by rfl) T.g_SizeMismatch rfl) pa_nil))) pa_nil))))))
      (pss_cons (ps_set (i := 1) sc__law_single.nd rfl (Or.inl rfl) (pe_op op_cat (pv 1) (pe_lst (pa_cons (pe_callB (cp _ rfl hp) (by rfl) T.m_isinstance (by decide +kernel) (pa_cons (pv 0) (pa_cons (pe_glob (v := .ref T.C_BadCount) (by rfl) T.g_BadCount rfl) pa_nil))) (pa_cons (pe_callB (cp _ rfl hp) (by rfl) T.m_isinstance (by decide +kernel) (pa_cons (pv 0) (pa_cons (pe_glob (v := .ref T.C_BadPerson) (by rfl) T.g_BadPerson rfl) pa_nil))) (pa_cons (pe_callB (cp _ rfl hp) (by rfl) T.m_isinstance (by decide +kernel) (pa_cons (pv 0) (pa_cons (pe_glob (v := .ref T.C_BadLetter) (by rfl) T.g_BadLetter rfl) pa_nil))) pa_nil))))))
      (pss_cons (ps_set (i := 1) sc__law_single.nd rfl (Or.inl rfl) (pe_op op_cat (pv 1) (pe_lst (pa_cons (pe_callB (cp _ rfl hp) (by rfl) T.m_isinstance (by decide +kernel) (pa_cons (pv 0) (pa_cons (pe_glob (v := .ref T.C_UnknownPerson) (by rfl) T.g_UnknownPerson rfl) pa_nil))) (pa_cons (pe_callB (cp _ rfl hp) (by rfl) T.m_isinstance (by decide +kernel) (pa_cons (pv 0) (pa_cons (pe_glob (v := .ref T.C_TooMany) (by rfl) T.g_TooMany rfl) pa_nil))) (pa_cons (pe_callB (cp _ rfl hp) (by rfl) T.m_isinstance (by decide +kernel) (pa_cons (pv 0) (pa_cons (pe_glob (v := .ref T.C_BadPattern) (by rfl) T.g_BadPattern rfl) pa_nil))) pa_nil))))))
      (pss_cons (ps_set (i := 1) sc__law_single.nd rfl (Or.inl rfl) (pe_op op_cat (pv 1) (pe_lst (pa_cons (pe_callB (cp _ rfl hp) (by rfl) T.m_isinstance (by decide +kernel) (pa_cons (pv 0) (pa_cons (pe_glob (v := .ref T.C_SameWord) (by rfl) T.g_SameWord rfl) pa_nil))) (pa_cons (pe_callB (cp _ rfl hp) (by rfl) T.m_isinstance (by decide +kernel) (pa_cons (pv 0) (pa_cons (pe_glob (v := .ref T.C_UnknownClue) (by rfl) T.g_UnknownClue rfl) pa_nil))) (pa_cons (pe_callB (cp _ rfl hp) (by rfl) T.m_isinstance (by decide +kernel) (pa_cons (pv 0) (pa_cons (pe_glob (v := .ref T.C_BadPlace) (by rfl) T.g_BadPlace rfl) pa_nil))) pa_nil))))))
      (pss_cons (ps_set (i := 1) sc__law_single.nd rfl (Or.inl rfl) (pe_op op_cat (pv 1) (pe_lst (pa_cons (pe_callB (cp _ rfl hp) (by rfl) T.m_isinstance (by decide +kernel) (pa_cons (pv 0) (pa_cons (pe_glob (v := .ref T.C_TooLong) (by rfl) T.g_TooLong rfl) pa_nil))) (pa_cons (pe_callB (cp _ rfl hp) (by rfl) T.m_isinstance (by decide +kernel) (pa_cons (pv 0) (pa_cons (pe_glob (v := .ref T.C_Melted) (by rfl) T.g_Melted rfl) pa_nil))) (pa_cons (pe_callB (cp _ rfl hp) (by rfl) T.m_isinstance (by decide +kernel) (pa_cons (pv 0) (pa_cons (pe_glob (v := .ref T.C_NothingToUndo) (by rfl) T.g_NothingToUndo rfl) pa_nil))) pa_nil))))))
      (pss_cons (ps_set (i := 1) sc__law_single.nd rfl (Or.inl rfl) (pe_op op_cat (pv 1) (pe_lst (pa_cons (pe_callB (cp _ rfl hp) (by rfl) T.m_isinstance (by decide +kernel) (pa_cons (pv 0) (pa_cons (pe_glob (v := .ref T.C_NothingToRedo) (by rfl) T.g_NothingToRedo rfl) pa_nil))) (pa_cons (pe_callB (cp _ rfl hp) (by rfl) T.m_isinstance (by decide +kernel) (pa_cons (pv 0) (pa_cons (pe_glob (v := .ref T.C_Refused) (by rfl) T.g_Refused rfl) pa_nil))) (pa_cons (pe_callB (cp _ rfl hp) (by rfl) T.m_isinstance (by decide +kernel) (pa_cons (pv 0) (pa_cons (pe_glob (v := .ref T.C_BadLine) (by rfl) T.g_BadLine rfl) pa_nil))) pa_nil))))))
      (pss_one (ps_ret (pe_and (pe_callB (cp _ rfl hp) (by rfl) T.m_isinstance (by decide +kernel) (pa_cons (pv 0) (pa_cons (pe_glob (v := .ref T.C_MurmurError) (by rfl) T.g_MurmurError rfl) pa_nil))) (pe_and (pe_callB (cp _ rfl hp) (by rfl) T.m_isinstance (by decide +kernel) (pa_cons (pv 0) (pa_cons (pe_bltn (v := .ty "ValueError") (by rfl) T.m_ValueError (by decide +kernel) rfl) pa_nil))) (pe_one (pe_cmpR op_eq (pe_callB (call_lenK K) (by rfl) T.m_len PySem.boot_len (pa_cons (pe_lcH (own := [("_law_kind", 2)]) hotc sc__law_single.nd (pv 1) (blkOk_by (N := ["_law_e", "_law_kinds", "_law_kind"]) (sc := defScope s__law_single) (by decide +kernel)) (fun _ _ _ _ _ => (pg_name (i := 2) sc__law_single.nd rfl (Or.inl rfl))) (fun _ _ _ _ _ => (pts_one (pt_val (pv 2)))) (fun _ _ _ _ _ => pe_int)) pa_nil)) pe_int (nomark _))))))))))))), ?_⟩
    refine run_D (W := fun _ _ _ _ => False) (Γ := [some (rE p.1 fs d), none, none]) (r := rB true) ?_ e (En.start (k := 2) _ (rs := [rE p.1 fs d]) (.cons ⟨rfl, hx⟩ .nil) rfl) k
    refine w_seq (w_set (EvNX.d (K := K) (xn_lst (xa_cons (x_isP (x_v rfl) (.own _) (sg.kb _ (by simp))) (xa_cons (x_isP (x_v rfl) (.own _) (sg.kb _ (by simp))) (xa_cons (x_isP (x_v rfl) (.own _) (sg.kb _ (by simp))) (xa_cons (x_isP (x_v rfl) (.own _) (sg.kb _ (by simp))) xa_nil)))) (by show 4 ≤ 100000; decide))) ?_)
    dsimp only [List.set]
    refine w_seq (w_set (EvNX.d (K := K) (xn_cat (K := K) (x_v rfl) (EvNX.d (K := K) (xn_lst (xa_cons (x_isP (x_v rfl) (.own _) (sg.kb _ (by simp))) (xa_cons (x_isP (x_v rfl) (.own _) (sg.kb _ (by simp))) (xa_cons (x_isP (x_v rfl) (.own _) (sg.kb _ (by simp))) xa_nil))) (by show 3 ≤ 100000; decide))) (by simp))) ?_)
    dsimp only [List.set]
    refine w_seq (w_set (EvNX.d (K := K) (xn_cat (K := K) (x_v rfl) (EvNX.d (K := K) (xn_lst (xa_cons (x_isP (x_v rfl) (.own _) (sg.kb _ (by simp))) (xa_cons (x_isP (x_v rfl) (.own _) (sg.kb _ (by simp))) (xa_cons (x_isP (x_v rfl) (.own _) (sg.kb _ (by simp))) xa_nil))) (by show 3 ≤ 100000; decide))) (by simp))) ?_)
    dsimp only [List.set]
    refine w_seq (w_set (EvNX.d (K := K) (xn_cat (K := K) (x_v rfl) (EvNX.d (K := K) (xn_lst (xa_cons (x_isP (x_v rfl) (.own _) (sg.kb _ (by simp))) (xa_cons (x_isP (x_v rfl) (.own _) (sg.kb _ (by simp))) (xa_cons (x_isP (x_v rfl) (.own _) (sg.kb _ (by simp))) xa_nil))) (by show 3 ≤ 100000; decide))) (by simp))) ?_)
    dsimp only [List.set]
    refine w_seq (w_set (EvNX.d (K := K) (xn_cat (K := K) (x_v rfl) (EvNX.d (K := K) (xn_lst (xa_cons (x_isP (x_v rfl) (.own _) (sg.kb _ (by simp))) (xa_cons (x_isP (x_v rfl) (.own _) (sg.kb _ (by simp))) (xa_cons (x_isP (x_v rfl) (.own _) (sg.kb _ (by simp))) xa_nil))) (by show 3 ≤ 100000; decide))) (by simp))) ?_)
    dsimp only [List.set]
    refine w_seq (w_set (EvNX.d (K := K) (xn_cat (K := K) (x_v rfl) (EvNX.d (K := K) (xn_lst (xa_cons (x_isP (x_v rfl) (.own _) (sg.kb _ (by simp))) (xa_cons (x_isP (x_v rfl) (.own _) (sg.kb _ (by simp))) (xa_cons (x_isP (x_v rfl) (.own _) (sg.kb _ (by simp))) xa_nil))) (by show 3 ≤ 100000; decide))) (by simp))) ?_)
    dsimp only [List.set]
    refine w_ret (x_and (x_isP (x_v rfl) (.own _) sg.mu) fun _ => x_and (x_isP (x_v rfl) (.ty _) sg.ve) fun _ => x_eqV (x_lenL (K := K) (EvNX.d (K := K) (xn_lcL [T.C_BadSize, T.C_BadTable, T.C_UnknownWord, T.C_SizeMismatch, T.C_BadCount, T.C_BadPerson, T.C_BadLetter, T.C_UnknownPerson, T.C_TooMany, T.C_BadPattern, T.C_SameWord, T.C_UnknownClue, T.C_BadPlace, T.C_TooLong, T.C_Melted, T.C_NothingToUndo, T.C_NothingToRedo, T.C_Refused, T.C_BadLine] (fun c => rB (decide (PySem.W.kitOne K (.ref D) (.ref c) = some true))) (fun c => decide (PySem.W.kitOne K (.ref D) (.ref c) = some true)) (fun _ => rV (.int 1)) (x_v rfl) (by show 19 ≤ 40000; decide) (fun c _ => t_B (x_v rfl)) (fun c _ _ => x_c)))) x_c) ?_
    dsimp only
    rw [List.length_map, sg.one]
    rfl
theorem pe_single {X : Cx} {q pos : Pos} {e : Expr} {i : Nat} {a : Addr} {oe : Obj} {cls : Value} {d : Option Addr} {pn : List (Addr × Obj)} (T : Tx P K mg) (hr : Room 1 X.A) (hz : L2N.Zn cls d oe) (hf : ∃ vs, oe.data = .fields vs) (ha : PE (X.suite a ((a, oe) :: pn)) e (tVar i))
    (hP : X.prog = P := by rfl) (hw : X.w = w := by rfl) (hK : X.K = K := by rfl) (hm : X.mg = mg := by rfl) (hb : X.base = base := by rfl) (hg : Gl (X.suite a ((a, oe) :: pn)) "_law_single" := by rfl) (he : starEach [e] X.env = (false, eval e X.env) :: starEach [] X.env := by rfl) :
    PE (X.suite a ((a, oe) :: pn)) (.Call (.Name "_law_single" q) [e] [] pos) (tSg K [T.C_BadSize, T.C_BadTable, T.C_UnknownWord, T.C_SizeMismatch, T.C_BadCount, T.C_BadPerson, T.C_BadLetter, T.C_UnknownPerson, T.C_TooMany, T.C_BadPattern, T.C_SameWord, T.C_UnknownClue, T.C_BadPlace, T.C_TooLong, T.C_Melted, T.C_NothingToUndo, T.C_NothingToRedo, T.C_Refused, T.C_BadLine] T.C_MurmurError a cls d (tCons (tVar i) tNil)) := by
  subst hP hw hK hm hb
  obtain ⟨vs, hv⟩ := hf
  refine pe_imp (pe_callE (p := (a, oe)) (E := fun _ _ _ _ => False) (X := X.suite a ((a, oe) :: pn)) (ok__law_single (w := X.w) (base := X.base) T) (⟨hr.dp, hr.un⟩ : L2H.RoomH 1 (X.A.mark (some (.ref a)))) ⟨rfl, vs, hv, hz.2.2 vs hv⟩ (by simp) hg T.g__law_single T.F__law_single.kp (b__law_single T) (fun _ _ _ _ _ _ _ z => z.elim) (pa_cons ha pa_nil (hs := he)) (by decide) he) fun σ H Q z => ?_
  obtain ⟨v, hv1, D, fs, G, e1, rfl, sg, ex, xd, k⟩ := z
  exact ⟨v, hv1, D, d, fs, G, e1, hz.zc, ⟨vs, hv⟩, sg, ex, xd, k⟩
theorem sc__law_count_error : FnScope ["_law_table", "_law_count", "_law_e"] ["_law_table", "_law_count"] (defScope s__law_count_error) := ⟨rfl, rfl, rfl, by decide +kernel, rfl, by decide +kernel, by decide +kernel⟩
theorem b__law_count_error (T : Tx P K mg) : Binds K T.fd__law_count_error ["_law_table", "_law_count"] [] := T.F__law_count_error.bindsN fun _ _ _ _ _ _ us hl => match us, hl with | [_, _], _ => rfl
def R_law_count_error (T : Tx P K mg) : List V → Hp → Rp → Prop := fun vs G r => ∃ (n : Nat) (z : Int) (m : List Nat), RA G vs [rTab K T.C_Table m, Mu.rI z] ∧ (Wf n m) ∧ (1 ≤ n) ∧ (n ≤ 6) ∧ (z < 0) ∧ r = rL K ([Sc.i z, .b true].map rSc)
theorem ok__law_count_error (T : Tx P K mg) : FnOk P w K mg base CX0 7 T.f__law_count_error T.fd__law_count_error ["_law_table", "_law_count"] (spD (R_law_count_error T)) := by
  refine T.F__law_count_error.ok sc__law_count_error (fun vs H Q E h => ?_) (fun cdv A outer s H vs Q E hr h => ?_)
  · obtain ⟨G, r, _, ⟨n, z, m, ra, _⟩, _⟩ := h
    exact ra.len
  · obtain ⟨G, r, e, ⟨n, z, m, ra, q0, q1, q2, q3, rfl⟩, k⟩ := h
    refine ⟨_, PSs.nox (pss_cons (to_try (L2N.ps_try_as (i := 2) rfl rfl sc__law_count_error.nd rfl rfl ⟨rfl, by decide, .inl T.g_BadCount⟩ takesN0 (fun W pn xe tk po => (pss_one (ps_expr (pe_methS (pv 0) T.c_Table T.M_Table_repeated (ok_Table_repeated T) (hr.mono (by decide)) (b_Table_repeated T) (fun σ => L2N.passAt tk σ) (pa_cons (pv 1) pa_nil))))) (fun a oe cls d pn hz hf => (pss_one (ps_ret (pe_lst (pa_cons (pe_xf T.err_BadCount.xf T.nf_BadCount_count hz.zc hf (pv 2)) (pa_cons (pe_single T (hr.mono (by decide)) hz hf (pv 2)) pa_nil))))))))
      (pss_one (ps_ret (pe_lst pa_nil)))), ?_⟩
    refine run_D (W := fun _ _ _ _ => False) (Γ := [some (rTab K T.C_Table m), some (Mu.rI z), none]) ?_ e (En.start (k := 1) _ (rs := [rTab K T.C_Table m, Mu.rI z]) ra (by rw [ra.len]; rfl)) k
    clear ra e k
    have l_m := q0.len
    refine w_seq (w_tryK fun W' => ?_)
    try dsimp only
    have e1 : cntO T.C_BadCount z (.inl (rTab K T.C_Table (powN n m z.toNat)) : Out) = .inr (.ref T.C_BadCount, [("count", .int z)]) := if_pos q3
    refine ws_do ?_
    wtm_at "e"
    refine ⟨true, T.xm_BadCount, fun _ ea ed hd => ?_, fun z => nomatch z⟩
    try dsimp only [List.set]
    exact w_ret (r := rL K ([Sc.i z, Sc.b true].map rSc)) (EvNX.d (K := K) (xn_lst (xa_cons (x_xf (x_v rfl) (hd (by simp)) rfl) (xa_cons (x_single (x_v rfl) T.sg_BadCount) xa_nil)) (by show 2 ≤ 100000; decide))) rfl
theorem c_law_count_error (T : Tx P K mg) {M : List Re} {κ : KV} {n : Nat} {z : Int} {m : List Nat} (q0 : Wf n m) (q1 : 1 ≤ n) (q2 : n ≤ 6) (q3 : z < 0) (k : κ (rL K ([Sc.i z, .b true].map rSc)) M) : CM (spD (R_law_count_error T)) [rTab K T.C_Table m, Mu.rI z] M κ := cm (fun vs G ra => SpD.of ⟨n, z, m, ra, q0, q1, q2, q3, rfl⟩) k
local macro_rules | `(tactic| wtm_at "c") => `(tactic| refine c_law_count_error _ (by wtm_at "s") (by wtm_at "s") (by wtm_at "s") (by wtm_at "s") ?_)
theorem sc__law_power : FnScope ["_law_rows_here", "_law_count", "_law_powers", "_law_known", "_law_k", "_law_after", "_law_lead"] ["_law_rows_here", "_law_count"] (defScope s__law_power) := ⟨rfl, rfl, rfl, by decide +kernel, rfl, by decide +kernel, by decide +kernel⟩
theorem b__law_power (T : Tx P K mg) : Binds K T.fd__law_power ["_law_rows_here", "_law_count"] [] := T.F__law_power.bindsN fun _ _ _ _ _ _ us hl => match us, hl with | [_, _], _ => rfl
theorem x_modN {Γ : Mu.Ctx} {ta tb : TE} {m n : Nat} (ha : EvX Γ ta (nI m)) (hb : EvX Γ tb (nI n)) (h : 0 < n) : EvX Γ (tOp (L2.rI (fun _ j => 0 < j) fun i j => .int (i % j)) ta tb) (nI (m % n)) := x_is (x_I ha hb (by omega)) (by show Mu.rI _ = Mu.rI _; congr 1)

def R_law_power (T : Tx P K mg) : List V → Hp → Rp → Prop := fun vs G r => ∃ (n c : Nat) (m : List Nat), RA G vs [rLL K (m.map bitsN), nI c] ∧ (Wf n m) ∧ (n ≤ 6) ∧ (1 ≤ n) ∧ r = rLL K ((powN n m c).map bitsN)
theorem ok__law_power (T : Tx P K mg) : FnG P w K mg base CX0 2 T.f__law_power T.fd__law_power ["_law_rows_here", "_law_count"] (spD (R_law_power T)) := by
  refine okG T.F__law_power sc__law_power (fun vs H Q E h => ?_) (fun cdv A outer s H vs Q E hgd hr h => ?_)
  · obtain ⟨G, r, _, ⟨n, c, m, ra, _⟩, _⟩ := h
    exact ra.len
  · obtain ⟨G, r, e, ⟨n, c, m, ra, q0, q1, q2, rfl⟩, k⟩ := h
    refine ⟨_, PSs.nox (pss_cons (ps_set (i := 2) sc__law_power.nd rfl (Or.inl rfl) (pe_lst (pa_cons (pe_call (ok__law_same_rows T) (hr.mono (by decide)) (by rfl) T.g__law_same_rows T.F__law_same_rows.kp (b__law_same_rows T) .nil pass0 (pa_cons (pe_callB (call_lenK K) (by rfl) T.m_len PySem.boot_len (pa_cons (pv 0) pa_nil)) pa_nil)) pa_nil)))
      (pss_cons (ps_set (i := 3) sc__law_power.nd rfl (Or.inl rfl) (pe_disp (pps_cons (pe_callTy (call_strD (K := K) hgd hr.units) (by rfl) T.m_str (by decide +kernel) (pa_cons (pe_ix (ix_listK K) (pv 2) pe_int (fun _ _ => rfl)) pa_nil)) pe_int pps_nil) (by rfl) (by rfl) (fun z => nomatch z) (by decide)))
      (pss_cons (ps_for PassesOwn.never rfl (pi_range1 (by rfl) T.m_range (pa_cons pe_int pa_nil)) (pg_name (i := 4) sc__law_power.nd rfl (Or.inl rfl)) (pss_cons (ps_set (i := 5) sc__law_power.nd rfl (Or.inl rfl) (pe_call (ok__law_join T) (hr.mono (by decide)) (by rfl) T.g__law_join T.F__law_join.kp (b__law_join T) .nil pass0 (pa_cons (pe_ix (ix_listK K) (pv 2) (pv 4) (fun _ _ => rfl)) (pa_cons (pv 0) pa_nil))))
      (pss_cons (ps_if (pt_dinT hr.u1 (pe_callTy (call_strD (K := K) hgd hr.units) (by rfl) T.m_str (by decide +kernel) (pa_cons (pv 5) pa_nil)) (pv 3)) (pss_cons (ps_set (i := 6) sc__law_power.nd rfl (Or.inl rfl) (pe_dgetT hr.u1 (pv 3) (pe_callTy (call_strD (K := K) hgd hr.units) (by rfl) T.m_str (by decide +kernel) (pa_cons (pv 5) pa_nil)) (fun _ _ => rfl)))
      (pss_cons (ps_if (pt_cmpR op_ge (pv 1) (pv 6) (nomark _)) (pss_one (ps_set (i := 1) sc__law_power.nd rfl (Or.inl rfl) (pe_op op_add (pv 6) (pe_op op_mod (pe_callTy call_int1 (by rfl) T.m_int (by decide +kernel) (pa_cons (pe_op op_sub (pv 1) (pv 6)) pa_nil)) (pe_op op_sub (pe_callB (call_lenK K) (by rfl) T.m_len PySem.boot_len (pa_cons (pv 2) pa_nil)) (pv 6)))))) pss_nil)
      (pss_one (ps_ret (pe_ix (ix_listK K) (pv 2) (pv 1) (fun _ _ => rfl)))))) pss_nil)
      (pss_cons (ps_dput hr.u1 (pv 3) (pe_callTy (call_strD (K := K) hgd hr.units) (by rfl) T.m_str (by decide +kernel) (pa_cons (pv 5) pa_nil)) (pe_callB (call_lenK K) (by rfl) T.m_len PySem.boot_len (pa_cons (pv 2) pa_nil)) rfl)
      (pss_one (ps_expr (pe_bm PySem.F.plainAttrs_list PySem.F.slot_list_append PySem.F.type_list_append mt_append (pv 2) (pa_cons (pv 5) pa_nil))))))))
      (pss_one (ps_ret (pe_lst pa_nil)))))), ?_⟩
    refine run_D (W := fun _ _ _ _ => False) (Γ := [some (rLL K (m.map bitsN)), some (nI c), none, none, none, none, none]) ?_ e (En.start (k := 5) _ (rs := [rLL K (m.map bitsN), nI c]) ra (by rw [ra.len]; rfl)) k
    clear ra e k
    have l_m := q0.len
    have lm := q0.len
    refine w_seq (ws_set (e_lstN (a_cons (e_call (a_cons (e_x (x_lenB (x_v rfl)) (a_nil ?_)))))))
    rw [lm]
    refine c_law_same_rows T (n := n) (by omega) (a_nil ⟨by show 1 ≤ 100000; decide, fun p => ?_⟩)
    rw [show rL K (((idN n).map bitsN).map (rLn K)) = rLL K ((powN n m 0).map bitsN) from rfl]
    try dsimp only [List.set, List.cons_append, List.nil_append]
    have wid := powN_wf q0 0
    have wq : ∀ j, Wf n (powN n m j) := powN_wf q0
    refine w_seq (ws_set (e_dispW fun d => ?_))
    refine e_cb (a_cons (e_op (e_v rfl (e_cn (om_ixOwn 0 rfl rfl (a_nil (am_strLL (smL (wq 0) q1) (by rw [List.length_map, (wq 0).len]; exact q1) (rows6 (wq 0) q1) ?_)))))))
    refine ⟨kT (powN n m 0), rfl, rfl, e_cn ⟨rfl, ?_⟩⟩
    try dsimp only [List.set, List.cons_append, List.nil_append]
    have hL : ∀ i, ∀ e ∈ (List.range i).map fun j => (powN n m j, j), Wf n e.1 := fun i e he => by
      obtain ⟨j, _, rfl⟩ := List.mem_map.mp he
      exact wq j
    refine w_seq (w_forR 200 (fun i (_ : Unit) => ∀ a b, a < b → b ≤ i → powN n m a ≠ powN n m b) (fun _ _ => [some (rLL K (m.map bitsN)), some (nI c), some (rV (.ref p)), some (rV (.ref d)), none, none, none]) (fun i _ => [lstR p ((List.range (i + 1)).map fun j => rLL K ((powN n m j).map bitsN)), dicR d (kvT nI ((List.range (i + 1)).map fun j => (powN n m j, j)))]) (x_cn 200) (by omega) () (fun a b h1 h2 => by omega) (by wtm_at "sub") rfl (fun k _ hk hP => ?_) (fun _ hP => ?_))
    · dsimp only [List.set]
      have hrange : ∀ j, j < k + 1 → ((List.range (k + 1)).map fun j => rLL K ((powN n m j).map bitsN))[j]? = some (rLL K ((powN n m j).map bitsN)) := fun j hj => by rw [List.getElem?_map, List.getElem?_range hj]; rfl
      refine w_seq (ws_set (e_call (a_cons (e_op (e_v rfl (e_v rfl (om_ixOwn 0 rfl (hrange k (by omega)) (a_cons (e_v rfl (a_nil (c_join T (wq k) q0 q1 ?_)))))))))))
      try dsimp only [List.set]
      rw [show rLL K ((prodN (powN n m k) m).map bitsN) = rLL K ((powN n m (k + 1)).map bitsN) from rfl]
      have hstr : ∀ {M : List Re} {κ : KV}, κ (rV (kV (kT (powN n m (k + 1))))) M → AM (rStrD K) [rLL K ((powN n m (k + 1)).map bitsN)] M κ := fun h => am_strLL (smL (wq _) q1) (by rw [List.length_map, (wq _).len]; exact q1) (rows6 (wq _) q1) h
      have hval := val_kvT (ρ := nI) (hL (k + 1)) (wq (k + 1)) q1
      refine w_seq (ws_if (w_tB (e_op (e_cb (a_cons (e_v rfl (a_nil (hstr (e_v rfl (om_dinO (k := kT (powN n m (k + 1))) 1 rfl ⟨_, rfl, fun hb => ?_, fun hb => ?_⟩))))))))))
      · cases hf : ((List.range (k + 1)).map fun j => (powN n m j, j)).find? (fun e => decide (e.1 = powN n m (k + 1))) with
        | none => rw [hval, hf] at hb; exact nomatch hb
        | some e =>
          have he0 := List.find?_some hf
          have he1 := of_decide_eq_true (p := e.1 = powN n m (k + 1)) he0
          clear he0
          obtain ⟨lead, hl, rfl⟩ := List.mem_map.mp (List.mem_of_find?_eq_some hf)
          have hl := List.mem_range.mp hl
          dsimp only at he1
          have hv : valA (kvT nI ((List.range (k + 1)).map fun j => (powN n m j, j))) (kT (powN n m (k + 1))) = some (nI lead) := by rw [hval, hf]; rfl
          refine w_seq (ws_set (e_op (e_v rfl (e_cb (a_cons (e_v rfl (a_nil (hstr (om_dgetO (k := kT (powN n m (k + 1))) 1 rfl hv ?_)))))))))
          try dsimp only [List.set]
          refine w_cutM (fun c2 : Nat => powN n m c2 = powN n m c ∧ c2 < k + 1) (fun c2 => [some (rLL K (m.map bitsN)), some (nI c2), some (rV (.ref p)), none, none, none, none]) (fun _ => [lstR p ((List.range (k + 1)).map fun j => rLL K ((powN n m j).map bitsN)), dicR d (kvT nI ((List.range (k + 1)).map fun j => (powN n m j, j)))]) ?_ fun c2 hc2 => ?_
          · apply w_if (b := decide (lead ≤ c))
            · exact t_T (x_geN (x_v rfl) (x_v rfl))
            · intro h
              have hlc := of_decide_eq_true h
              refine ws_set (e_bor (r := nI (lead + (c - lead) % (k + 1 - lead))) (bc_set (i := 2) bc_refl rfl (br_lst1 (K := K) (k := 0) rfl)) ?_ lf_v ?_)
              · dsimp only [List.set]
                refine x_is (x_addN (x_v rfl) (x_modN (m := c - lead) (n := k + 1 - lead) (x_int (x_subN (x_v rfl) (x_v rfl) hlc)) (x_subN (x_is (x_lenLm (x_v rfl)) (by rw [List.length_range])) (x_v rfl) (by omega)) (by omega))) rfl
              · have hlt : (c - lead) % (k + 1 - lead) < k + 1 - lead := Nat.mod_lt _ (by omega)
                exact ⟨_, ⟨(pow_per he1 hl c hlc).symm, by omega⟩, by wtm_at "sub", rfl⟩
            · intro h
              have hlc := of_decide_eq_false h
              exact w_nx ⟨c, ⟨rfl, by omega⟩, by wtm_at "sub", rfl⟩
          obtain ⟨hp, hlt⟩ := hc2
          try dsimp only
          refine ws_ret (e_op (e_v rfl (e_v rfl (om_ixOwn 0 rfl (hrange c2 hlt) ?_))))
          show rLL K ((powN n m c2).map bitsN) = rLL K ((powN n m c).map bitsN)
          rw [hp]
      · have hno : ∀ e ∈ (List.range (k + 1)).map fun j => (powN n m j, j), e.1 ≠ powN n m (k + 1) := fun e he z => by
          cases hf : ((List.range (k + 1)).map fun j => (powN n m j, j)).find? (fun e => decide (e.1 = powN n m (k + 1))) with
          | none => exact List.find?_eq_none.mp hf e he (decide_eq_true z)
          | some e2 => rw [hval, hf] at hb; exact nomatch hb
        refine w_nx ?_
        try dsimp only
        refine w_seq (ws_dput 1 (e_cb (a_cons (e_v rfl (a_nil (am_own 0 rfl (x_lenLm (x_v rfl)) (e_v rfl ⟨d, rfl, e_cb (a_cons (e_v rfl (a_nil (hstr ⟨kT (powN n m (k + 1)), _, rfl, rfl, ?_, ?_⟩))))⟩)))))))
        · unfold kvT
          rw [List.length_map, List.length_map, List.length_range]; omega
        rw [List.length_range, put_kvT (ρ := nI) (a := k + 1) (hL (k + 1)) (wq (k + 1)) q1 hno]
        try dsimp only [List.set]
        refine ws_do (e_app 0 rfl (e_v rfl ⟨_, rfl, by rw [List.length_map, List.length_range]; omega, (), ?_, by wtm_at "sub", ?_⟩) rfl)
        · intro a b hab hb2
          by_cases hbk : b ≤ k
          · exact hP a b hab hbk
          · have e : b = k + 1 := by omega
            subst e
            exact hno (powN n m a, a) (List.mem_map.mpr ⟨a, List.mem_range.mpr (by omega), rfl⟩)
        · try dsimp only [List.set]
          rw [List.range_succ (n := k + 1), List.map_append, List.map_append]
          rfl
    · exfalso
      exact hP 72 132 (by decide) (by decide) (pow_rep q0 q1 (by decide) (by decide) (by decide))
theorem c_law_power (T : Tx P K mg) {M : List Re} {κ : KV} {n c : Nat} {m : List Nat} (q0 : Wf n m) (q1 : n ≤ 6) (q2 : 1 ≤ n) (k : κ (rLL K ((powN n m c).map bitsN)) M) : CM (spD (R_law_power T)) [rLL K (m.map bitsN), nI c] M κ := cm (fun vs G ra => SpD.of ⟨n, c, m, ra, q0, q1, q2, rfl⟩) k
local macro_rules | `(tactic| wtm_at "c") => `(tactic| refine c_law_power _ (by wtm_at "s") (by wtm_at "s") (by wtm_at "s") ?_)
theorem sc_law : FnScope ["_law_script", "_law_box_here", "_law_n", "_law_rows_here", "_law_table", "_law_row", "_law_kind", "_law_count", "_law_wrong"] ["_law_script"] (defScope s_law) := ⟨rfl, rfl, rfl, by decide +kernel, rfl, by decide +kernel, by decide +kernel⟩
theorem b_law (T : Tx P K mg) : Binds K T.fd_law ["_law_script"] [] := T.F_law.bindsN fun _ _ _ _ _ _ us hl => match us, hl with | [_], _ => rfl
def sp_law (K : PySem.W.Frag) : Sp := fun vs H Q _ => ∃ (a : Addr) (ns : List Int), vs = [.ref a] ∧ SqL K H a (ns.map V.int) ∧ ns.length ≤ 63 ∧ ∀ H', Q (.bl true) H'

theorem x_lpow (T : Tx P K mg) {Γ : Mu.Ctx} {ta tb : TE} {E : XK} {n c : Nat} {m : List Nat} (ha : EvX Γ ta (rLL K (m.map bitsN))) (hb : EvX Γ tb (nI c)) (w : Wf n m) (h6 : n ≤ 6) (h1 : 1 ≤ n) : EvX Γ (tCall (spD (R_law_power T)) [] E (tCons ta (tCons tb tNil))) (rLL K ((powN n m c).map bitsN)) := x_call (xa_cons ha (xa_cons hb xa_nil)) fun vs G ra => SpD.of ⟨n, c, m, ra, w, h6, h1, rfl⟩
theorem x_cerr (T : Tx P K mg) {Γ : Mu.Ctx} {ta tb : TE} {E : XK} {n : Nat} {z : Int} {m : List Nat} (ha : EvX Γ ta (rTab K T.C_Table m)) (hb : EvX Γ tb (Mu.rI z)) (w : Wf n m) (h1 : 1 ≤ n) (h6 : n ≤ 6) (hz : z < 0) : EvX Γ (tCall (spD (R_law_count_error T)) [] E (tCons ta (tCons tb tNil))) (rL K ([Sc.i z, .b true].map rSc)) := x_call (xa_cons ha (xa_cons hb xa_nil)) fun vs G ra => SpD.of ⟨n, z, m, ra, w, h1, h6, hz, rfl⟩
theorem xn_lsame (T : Tx P K mg) {Γ : Mu.Ctx} {ta : TE} {E : XK} {n : Nat} (ha : EvX Γ ta (nI n)) (h : n ≤ 60) : EvNX Γ (tCall (spN (R_law_same_rows T)) [] E (tCons ta tNil)) (((idN n).map bitsN).map (rLn K)) := xn_call (xa_cons ha xa_nil) fun vs G ra => SpN.of ⟨n, ra, h, rfl⟩

theorem ok_law (T : Tx P K mg) : FnG P w K mg base CX0 8 T.f_law T.fd_law ["_law_script"] (sp_law K) := by
  refine okG T.F_law sc_law (fun vs H Q E h => ?_) (fun cdv A outer s H vs Q E hgd hr h => ?_)
  · obtain ⟨a, ns, rfl, _⟩ := h
    rfl
  · obtain ⟨a, ns, rfl, hS, hl, k⟩ := h
    refine ⟨_, PSs.nox (pss_cons (ps_set (i := 1) sc_law.nd rfl (Or.inl rfl) (pe_call (ok__law_box T) (hr.mono (by decide)) (by rfl) T.g__law_box T.F__law_box.kp (b__law_box T) .nil pass0 (pa_cons (pv 0) pa_nil)))
      (pss_cons (ps_set (i := 2) sc_law.nd rfl (Or.inl rfl) (pe_op op_add pe_int (pe_call (ok__law_takeW T) (hr.mono (by decide)) (by rfl) T.g__law_take T.F__law_take.kp (b__law_take T) .nil pass0 (pa_cons (pv 1) (pa_cons pe_int pa_nil)))))
      (pss_cons (ps_set (i := 3) sc_law.nd rfl (Or.inl rfl) (pe_call (ok__law_rows T) (hr.mono (by decide)) (by rfl) T.g__law_rows T.F__law_rows.kp (b__law_rows T) .nil pass0 (pa_cons (pv 1) (pa_cons (pv 2) (pa_cons pe_int pa_nil)))))
      (pss_cons (ps_set (i := 4) sc_law.nd rfl (Or.inl rfl) (pe_make T.mk_Table (ok_Table___init__ T) (hr.mono (by decide)) (by rfl) T.g_Table (b_Table___init__ T) .nil pass0 (pa_cons (pe_lc (own := [("_law_row", 5)]) (by rfl) sc_law.nd (pi_listK K (pv 3)) (blkOk_by (N := ["_law_script", "_law_box_here", "_law_n", "_law_rows_here", "_law_table", "_law_row", "_law_kind", "_law_count", "_law_wrong"]) (sc := defScope s_law) (by decide +kernel)) (fun _ _ _ _ _ => (pg_name (i := 5) sc_law.nd rfl (Or.inl rfl))) (fun _ _ _ _ _ => pts_nil) (fun _ _ _ _ _ => (pe_callTy (call_listK K) (by rfl) T.m_list (by decide +kernel) (pa_cons (pv 5) pa_nil)))) pa_nil)))
      (pss_cons (ps_set (i := 6) sc_law.nd rfl (Or.inl rfl) (pe_call (ok__law_takeW T) (hr.mono (by decide)) (by rfl) T.g__law_take T.F__law_take.kp (b__law_take T) .nil pass0 (pa_cons (pv 1) (pa_cons pe_int pa_nil))))
      (pss_cons (ps_set (i := 7) sc_law.nd rfl (Or.inl rfl) (pe_call (ok__law_takeW T) (hr.mono (by decide)) (by rfl) T.g__law_take T.F__law_take.kp (b__law_take T) .nil pass0 (pa_cons (pv 1) (pa_cons pe_int pa_nil))))
      (pss_cons (ps_if (pt_cmpR op_eq (pv 6) pe_int (nomark _)) (pss_one (ps_set (i := 7) sc_law.nd rfl (Or.inl rfl) (pe_call (ok__law_takeW T) (hr.mono (by decide)) (by rfl) T.g__law_take T.F__law_take.kp (b__law_take T) .nil pass0 (pa_cons (pv 1) (pa_cons (pe_op op_pow pe_int pe_int) pa_nil))))) pss_nil)
      (pss_cons (ps_if (pt_cmpR op_eq (pv 6) pe_int (nomark _)) (pss_one (ps_set (i := 7) sc_law.nd rfl (Or.inl rfl) (pe_op op_add (pe_op op_pow pe_int pe_int) (pv 7)))) pss_nil)
      (pss_cons (ps_if (pt_not (pt_val (pe_call (ok__law_same T) (hr.mono (by decide)) (by rfl) T.g__law_same T.F__law_same.kp (b__law_same T) .nil pass0 (pa_cons (pe_meth (pv 4) T.c_Table T.M_Table_repeated (ok_Table_repeated T) (hr.mono (by decide)) (b_Table_repeated T) .nil passF (pa_cons (pv 7) pa_nil)) (pa_cons (pe_callG (ok__law_power T) hgd (hr.mono (by decide)) (by rfl) T.g__law_power T.F__law_power.kp (b__law_power T) .nil pass0 (pa_cons (pv 3) (pa_cons (pv 7) pa_nil))) pa_nil))))) (pss_one (ps_ret pe_bl)) pss_nil)
      (pss_cons (ps_if (PW.pt (pw_or (pt_not (pt_val (pe_call (ok__law_same T) (hr.mono (by decide)) (by rfl) T.g__law_same T.F__law_same.kp (b__law_same T) .nil pass0 (pa_cons (pe_meth (pv 4) T.c_Table T.M_Table_repeated (ok_Table_repeated T) (hr.mono (by decide)) (b_Table_repeated T) .nil passF (pa_cons pe_int pa_nil)) (pa_cons (pe_call (ok__law_same_rows T) (hr.mono (by decide)) (by rfl) T.g__law_same_rows T.F__law_same_rows.kp (b__law_same_rows T) .nil pass0 (pa_cons (pv 2) pa_nil)) pa_nil))))) (pw_or1 (pt_not (pt_val (pe_call (ok__law_same T) (hr.mono (by decide)) (by rfl) T.g__law_same T.F__law_same.kp (b__law_same T) .nil pass0 (pa_cons (pe_meth (pv 4) T.c_Table T.M_Table_repeated (ok_Table_repeated T) (hr.mono (by decide)) (b_Table_repeated T) .nil passF (pa_cons pe_int pa_nil)) (pa_cons (pv 3) pa_nil)))))))) (pss_one (ps_ret pe_bl)) pss_nil)
      (pss_cons (ps_set (i := 8) sc_law.nd rfl (Or.inl rfl) (pe_op op_sub (pe_un un_neg pe_int) (pe_call (ok__law_takeW T) (hr.mono (by decide)) (by rfl) T.g__law_take T.F__law_take.kp (b__law_take T) .nil pass0 (pa_cons (pv 1) (pa_cons (pe_op op_pow pe_int pe_int) pa_nil)))))
      (pss_one (ps_ret (pe_and (pe_cmpR (op_eqK K hr.units) (pe_call (ok__law_count_error T) (hr.mono (by decide)) (by rfl) T.g__law_count_error T.F__law_count_error.kp (b__law_count_error T) .nil pass0 (pa_cons (pv 4) (pa_cons (pv 8) pa_nil))) (pe_lst (pa_cons (pv 8) (pa_cons pe_bl pa_nil))) (nomark _)) (pe_one (pe_call (ok__law_same T) (hr.mono (by decide)) (by rfl) T.g__law_same T.F__law_same.kp (b__law_same T) .nil pass0 (pa_cons (pv 4) (pa_cons (pv 3) pa_nil)))))))))))))))))), ?_⟩
    refine run_law (W := fun _ _ _ _ => False) (n := 8) (i := 1) hS hl rfl rfl (by decide) k fun b => ?_
    change WP _ [none, some (rV (.ref b)), none, none, none, none, none, none, none] [boxR K b] _ _
    clear k hS hl
    refine w_seq (ws_set ?_)
    wtm_at "e"
    intro d hd
    wtm_at "e"
    obtain ⟨n, hn⟩ : ∃ n, n = 1 + d := ⟨_, rfl⟩
    rw [← hn]
    have h1 : 1 ≤ n := by omega
    have h6 : n ≤ 6 := by omega
    clear hn hd d
    try dsimp only [List.set]

    wtm_at "w"
    intro f wf _
    have lf := wf.len
    refine w_seq (ws_set ?_)
    wtm_at "e"
    try dsimp only [List.set]
    wtm_at "w"
    intro kd hkd
    wtm_at "w"
    intro c0 hc0
    try dsimp only [List.set]
    refine w_cut (fun _ : Nat => True) (fun c => [none, some (rV (.ref b)), some (nI n), some (rLL K (f.map bitsN)), some (rTab K T.C_Table f), none, some (nI kd), some (nI c), none]) ?_ fun c1 _ => ?_
    · wtm_at "if"
      all_goals intro hb
      · refine ws_set ?_
        wtm_at "e"
        intro c hc
        exact ⟨c, trivial, by wtm_at "sub", rfl⟩
      · exact w_nx ⟨c0, trivial, by wtm_at "sub", rfl⟩
    try dsimp only
    refine w_cut (fun _ : Nat => True) (fun c => [none, some (rV (.ref b)), some (nI n), some (rLL K (f.map bitsN)), some (rTab K T.C_Table f), none, none, some (nI c), none]) ?_ fun c _ => ?_
    · wtm_at "if"
      all_goals intro hb
      · refine ws_set ?_
        wtm_at "e"
        exact ⟨_, trivial, by wtm_at "sub", rfl⟩
      · exact w_nx ⟨c1, trivial, by wtm_at "sub", rfl⟩
    try dsimp only
    have ec : ∀ c : Nat, cntO T.C_BadCount (c : Int) (.inl (rTab K T.C_Table (powN n f (c : Int).toNat)) : Out) = .inl (rTab K T.C_Table (powN n f c)) := fun c => if_neg (by omega)
    have hn1 := h1
    have hsame : ∀ {Γ : Mu.Ctx} {ta tb te : TE} {E E2 : XK} {z : Nat} {w : List Nat}, EvX Γ ta (rTab K T.C_Table f) → EvX Γ tb (nI z) → EvX Γ te (rLL K (w.map bitsN)) → powN n f z = w → EvX Γ (tCall (spD (R_same K T.C_Table)) [] E (tCons (tMeth T.C_Table "repeated" (spO (R_Table_repeated T)) [] E2 ta (tCons tb tNil)) (tCons te tNil))) (rB true) := fun {Γ ta tb te E E2 z w} h1 h2 h3 h4 => by
      subst h4
      refine x_same T (m := powN n f z) (n := n) ?_ h3 (powN_wf wf z) h6
      apply EvX.by
      intro W ε
      exact e_meth (e_x h1 ⟨ins_tab rfl, a_cons (e_x h2 (a_nil (c_Table_repeated T (z := (z : Int)) wf hn1 h6 (ec z) ⟨rfl, rfl⟩)))⟩)
    refine w_seq ?_
    apply w_no
    · exact t_is (t_not (t_T (hsame (x_v rfl) (x_v rfl) (x_lpow T (x_v rfl) (x_v rfl) wf h6 h1) rfl))) rfl
    refine w_nx ?_
    try dsimp only
    refine w_seq ?_
    apply w_no
    · refine t_is (t_or (c := false) (d := false) ?_ fun _ => ?_) rfl
      · exact t_is (t_not (t_T (hsame (x_v rfl) (x_cn 0) (w := idN n) (EvNX.d (K := K) (xn_lsame T (x_v rfl) (by omega))) rfl))) rfl
      · exact t_is (t_not (t_T (hsame (x_v rfl) (x_cn 1) (x_v rfl) (prodN_idl wf)))) rfl
    refine w_nx ?_
    try dsimp only
    refine w_seq (ws_set ?_)
    wtm_at "e"
    intro dw hdw
    wtm_at "e"
    obtain ⟨z, hz⟩ : ∃ z : Int, z = -((1 : Nat) : Int) - (dw : Int) := ⟨_, rfl⟩
    rw [show rV (V.int (-((1 : Nat) : Int) - (dw : Int))) = Mu.rI z from by rw [hz]]
    try dsimp only [List.set]
    have hz0 : z < 0 := by omega
    refine ws_ret (e_x (r := rB true) (x_and (c := true) (d := true) ?_ fun _ => ?_) rfl)
    · exact x_eqSelf (K := K) [Sc.i z, .b true] (x_cerr T (x_v rfl) (x_v rfl) wf h1 h6 hz0) (EvNX.d (K := K) (xn_lst (xa_cons (x_v rfl) (xa_cons x_c xa_nil)) (by show 2 ≤ 100000; decide)))
    · exact x_same T (x_v rfl) (x_v rfl) wf h6
end
end MuL

set_option maxHeartbeats 0
open PySem PySem.W PySem.Calls PyProof.Rows
set_option maxRecDepth 100000 in
set_option maxHeartbeats 0 in
theorem PySem.Challenge.cw_murmurline_k07_whole_repeated_holds : PySem.Challenge.rw_murmurline_k07_whole_repeated.Holds := by
  w_on; o_law
  refine HandSHeadRun.head_any (r := OpenLaw.row PySem.Challenge.rw_murmurline_k07_whole_repeated) (q := view (OpenLaw.row PySem.Challenge.rw_murmurline_k07_whole_repeated).prog [56]) (H := MuL.hk) (ob := MuL.ob) (M := 40000) (loose := MuL.loose) (d := HandSHeadRun.topDef (OpenLaw.row PySem.Challenge.rw_murmurline_k07_whole_repeated).prog 56) (kwd := []) MuL.ob_eq
    (by kernel_rfl) (fun s => by kernel_rfl) MuL.run (by kernel_rfl) (by kernel_rfl) (by kernel_rfl) (by rfl) (by first | assumption | decide +kernel) (by decide +kernel) ⟨rfl, rfl, rfl, rfl, rfl, by decide +kernel⟩ ?hw ?hc
  case hw => w_witness2
  case hc =>
    refine Mu.walk_ofG (l := PySem.Challenge.rw_murmurline_k07_whole_repeated) (n := 63) (k := 8) (x := "_law_script") (CX := L2.CX0) rfl (by decide) (by kernel_rfl) ⟨rfl, by decide, by decide⟩ ?F (fun _ _ _ _ z => z)
    intro w mg fa h Y G hmg0
    obtain ⟨K, KX, c⟩ := Y
    have hmg : mg ("law" : PySem.Str) = some (.ref fa) := by
      have e : (HandSHeadRun.topDef (OpenLaw.row PySem.Challenge.rw_murmurline_k07_whole_repeated).prog 56).name = ("law" : PySem.Str) := by kernel_rfl
      rw [← e]
      exact hmg0
    obtain ⟨T, hT⟩ := MuL.mkTx (P := PySem.Challenge.rw_murmurline_k07_whole_repeated.prog) ⟨by kernel_rfl, by kernel_rfl⟩ KX G c
    have e := hmg.symm.trans T.g_law
    cases e
    exact ⟨K, T.fd_law, MuL.sp_law K, KX, fun s v => T.F_law.bindsA (ps := ["_law_script"]) (fun _ _ _ _ _ _ us hl => match us, hl with | [_], _ => rfl) s [v] rfl, fun H a ns hl _ hS => ⟨a, ns, rfl, hS, hl, fun _ => rfl⟩, fun base _ _ => MuL.ok_law T⟩
#print axioms PySem.Challenge.cw_murmurline_k07_whole_repeated_holds
