import PyProof.Rows.All
import Wide.All
import OpenK.AllK
import Wide.FinOn
import HandS.ExcField
import HandS.HeadEnd
import HandS.HeadHook2
import HandS.ExcOwn
import HandS.HeadNt
import HandS.Property
import HandS.ForMost
import HandS.Conv
import HandS.TupLen
import HandS.NoneIn
import HandS.Small
import HandS.Style
import HandS.TupAny
import HandS.Deep
import HandS.ForExc
import HandS.Walk
import HandS.DictTup
import HandS.DictComp
import HandS.IsInst
import HandS.CallSlots
import KE.SortData
import KE.KDictCopyH
import KE.GoesEnum
import HandS.ExcInit
import HandS.Nested
import KE.KExcSuper
import HandS.TryOnly
import HandS.TryMany
import OpenK.KOps
import HandS.Codes
import OpenK.KMeth
import HandS.More
import KE.KEqDict
import KE.DataFind
import HandS.DeepEq
import PyProof.NeKinds
import PyProof.ExcBaseAll.ValueError
import HandS.Finally
import KE.KOpsOwn
import HandS.Text
import HandS.SetKeys
import HandS.Gcd
import KE.DataCmp
import HandS.HotCalls
import PyProof.EqKinds
import PyProof.P3In
import PyProof.Dict
import HandS.ClsMeth
import KE.KStateDown
import HandS.Head2
import HandS.Head3
import PySem.Challenge.RW_giftrings_k06_kin
set_option Elab.async false
set_option linter.all false
set_option maxRecDepth 100000
/-! Q0: what the head's run is looked at for. -/
namespace Qy
open PySem PySem.Spec PySem.Calls L2 PyProof.Rows
abbrev Fg := PySem.W.Frag
/-! ### an exception class -/
def oexB (K : Fg) (C : Addr) : Bool := (match K.lookup C with
  | some ⟨.type t, _, .cls cd, sl⟩ => decide (t = "type") && (match cd.mro, sl.toList with
    | .ref C' :: bm, [_, _, _, _, some (.builtin n), _] => decide (C' = C) && (decide (n = "ValueError.__new__") && (!cd.hasDel && (cd.hasDict && HandSPX.refsVE bm)))
    | _, _ => false)
  | _ => false) && (He.eqO (PySem.W.findIn K (.ref C) "__setattr__") (some (some (.builtin "object.__setattr__"))) && (decide (PySem.W.subIn K (.ref C) (.type "BaseException") = some true) && (decide (PySem.W.typeIn K (.ref C) = some (.type "type")) && PySem.W.keepIn K (.ref C))))
/-- an exception's __init__, as the text has it -/
structure ExD where
  cn : Str
  name : Str
  qual : Str
  params : Arguments
  body : List Stmt
  scope : Scope
abbrev ExV : Type := Option (Str × Str × Arguments × FuncBody × Scope × Addr × List Str × Addr)
def isNo : Value → Bool
  | .none => true
  | _ => false
def ExD.val (d : ExD) : ExV := some (d.name, d.qual, d.params, .stmts d.body, d.scope, mainGlobals, ["__class__"], builtinsNs)
def exF (K : Fg) (cn : Str) : Addr := He.ma K (He.ga K cn) "__init__"
def exW (K : Fg) (cn : Str) : ExV := match K.lookup (exF K cn) with
  | some ⟨_, _, .func fd, _⟩ => some (fd.name, fd.qualname, fd.params, fd.body, fd.scope, fd.globals, fd.closure.map (·.1), fd.builtins)
  | _ => none
def codeB (P : Program) (K : Fg) (cda : Addr) : Bool := match K.lookup cda with
  | some ⟨_, _, .fields vs, _⟩ => (match (vs[2]? : Option Value) with
    | some (Value.str file _) => (P.main.file : Str) == file
    | _ => false)
  | _ => false
def cellB (K : Fg) (cc C : Addr) : Bool := match K.lookup cc with
  | some ⟨_, _, .cell (some (.ref D)), _⟩ => decide (D = C)
  | _ => false
def ExD.ok (P : Program) (K : Fg) (d : ExD) : Bool := (match K.lookup (exF K d.cn) with
  | some ⟨_, _, .func fd, _⟩ => (match fd.closure, fd.code with
    | [(_, cc)], .ref cda => PySem.W.codeIn K (.ref cda) d.qual && (codeB P K cda && (cellB K cc (He.ga K d.cn) && isNo fd.defaults))
    | _, _ => false)
  | _ => false) && (decide (PySem.W.mroIn K (He.ga K d.cn) (.ref (He.ga K d.cn)) = some true) && (He.eqO (PySem.W.nsIn K cStatics "thirdparty.any") (some none) && (He.eqO (PySem.W.ks_superIn K (He.ga K d.cn) (He.ga K d.cn) "__init__") (some (some (.builtin "ValueError.__init__"))) &&
    (decide (PySem.W.subIn K (.ref (He.ga K d.cn)) (.type "ValueError") = some true) && (oexB K (He.ga K d.cn) && (He.eqO (PySem.W.findIn K (.ref (He.ga K d.cn)) "__init__") (some (some (.ref (exF K d.cn)))) &&
      (decide (PySem.W.typeIn K (.ref (exF K d.cn)) = some (.type "function")) && ((P.main.scope.names.lookup ("super" : Str)).isNone && xfB K (He.ga K d.cn)))))))))
/-! ### the Hook -/
def ddA (m : Nat) : List Nat → List Nat
  | [] => []
  | a :: t => if m.testBit a = true then ddA m t else a :: ddA (m ||| (1 <<< a)) t
/-- one round: what these objects name, each once (the marks are bits of one number: eraseDups costs the kernel gigabytes) -/
def growF (g : Addr → Option Obj) (as : List Addr) : List Addr := ddA 0 (as ++ as.flatMap fun a => match g a with
  | some o => He.refsD o
  | none => [])
def asQ (g : Addr → Option Obj) : Nat → List Addr
  | 0 => [mainGlobals, cStatics]
  | n + 1 => growF g (asQ g n)
abbrev AlQ : Type := (Bool × Bool) × List He.FnW × List ExV
def obsQ (P : Program) (fa : List He.Fa) (fn : List He.DefD) (ex : List ExD) (K : Fg) : AlQ := (((fa.all fun f => f.ok K) && fn.all fun d => d.ok K, ex.all fun d => d.ok P K), fn.map fun d => He.fnW K d.at_, ex.map fun d => exW K d.cn)
def valQ (fn : List He.DefD) (ex : List ExD) : AlQ := ((true, true), fn.map He.DefD.val, ex.map ExD.val)
def SaysQ (P : Program) (fa : List He.Fa) (fn : List He.DefD) (ex : List ExD) (K : Fg) : Prop := obsQ P fa fn ex K = valQ fn ex
/-! ### more facts of the head -/
inductive Fb where
  | ne (x : Str)
  | inst (x : Str)
  | ex0 (x : Str)
  | op (x : Str) (n T : String)
  | self (x : Str)
  | bi (x : Str) (n : String)
  | nt (x : Str) (T : String)
  | nk (x y : Str)
def Fb.ok (K : Fg) : Fb → Bool
  | .ne x => He.eqO (PySem.W.findIn K (.ref (He.ga K x)) "__ne__") (some (some (.builtin "object.__ne__"))) && decide (PySem.W.mroIn K (He.ga K x) (.type "object") = some true)
  | .inst x => He.eqO (PySem.W.findIn K (.ref (He.ga K x)) "__class__") (some (some (.builtin "object.__class__"))) && (He.eqO (PySem.W.specialIn K (.builtin "object.__class__") "__get__") (some (some (.builtin "getset_descriptor.__get__"))) && (decide (PySem.W.takesIn K (.builtin "object.__class__") = some true) && (decide (PySem.W.mroIn K (He.ga K x) (.type "object") = some true) && decide (PySem.W.kitOne K (.ref (He.ga K x)) (.ref (He.ga K x)) = some true))))
  | .ex0 x => PySem.W.excIn K (He.ga K x) [.type "ValueError", .type "Exception", .type "BaseException", .type "object"] "ValueError.__new__" && (PySem.W.keepIn K (.ref (He.ga K x)) && (decide (PySem.W.subIn K (.ref (He.ga K x)) (.type "BaseException") = some true) && decide (PySem.W.typeIn K (.ref (He.ga K x)) = some (.type "type"))))
  | .op x n T => PySem.W.selfFirst K (He.ga K x) && (He.eqO (PySem.W.findIn K (.ref (He.ga K x)) (PySem.dunderR n)) (some none) && ((PySem.W.findIn K (.type T) (PySem.dunder n)).isSome && ((PySem.W.findIn K (.type T) (PySem.dunderR n)).isSome && decide (PySem.W.subIn K (.type T) (.ref (He.ga K x)) = some false))))
  | .self x => PySem.W.selfFirst K (He.ga K x)
  | .bi x n => He.eqO (PySem.W.nsIn K mainGlobals x) (some (some (.builtin n)))
  | .nt x T => decide (PySem.W.kitOne K (.type T) (.ref (He.ga K x)) = some false)
  | .nk x y => decide (PySem.W.kitOne K (.ref (He.ga K y)) (.ref (He.ga K x)) = some false)
abbrev AlR : Type := AlQ × Bool
def obsR (P : Program) (fa : List He.Fa) (fn : List He.DefD) (ex : List ExD) (fb : List Fb) (K : Fg) : AlR := (obsQ P fa fn ex K, fb.all fun f => f.ok K)
def SaysR (P : Program) (fa : List He.Fa) (fn : List He.DefD) (ex : List ExD) (fb : List Fb) (K : Fg) : Prop := obsR P fa fn ex fb K = (valQ fn ex, true)
end Qy

set_option Elab.async false
set_option linter.all false
set_option maxRecDepth 100000
/-! Q82: properties and classmethods among the head's facts. -/
namespace Qy
open PySem PySem.Spec PySem.Calls L2 PyProof.Rows
/-- the def behind a property, a classmethod -/
def gAd (K : Fg) (x m : Str) (T : String) : Addr := He5.wf K (He.ga K x) T m
inductive Fp where
  | prop (x m : Str)
  | cmet (x m : Str)
def Fp.ok (K : Fg) : Fp → Bool
  | .prop x m => He.eqO (PySem.W.findIn K (.ref (He.ga K x)) m) (some (some (.ref (He.ma K (He.ga K x) m)))) && (He.eqO (PySem.W.specialIn K (.ref (He.ma K (He.ga K x) m)) "__get__") (some (some (.builtin "property.__get__"))) && (decide (PySem.W.takesIn K (.ref (He.ma K (He.ga K x) m)) = some true) &&
    (match PySem.W.recIn K (He.ma K (He.ga K x) m) "property" with
    | some (.ref _ :: _) => true
    | _ => false)))
  | .cmet x m => He5.wrapB K (He.ga K x) "classmethod" "classmethod.__get__" m && (PySem.W.fnIn K (gAd K x m "classmethod") && (PySem.W.readsIn K (He.ga K x) (.type "type") && He.eqO (PySem.W.specialIn K (.ref (He.ga K x)) "__getattribute__") (some (some (.builtin "type.__getattribute__")))))
abbrev AlP : Type := AlR × (Bool × List He5.FnW)
def obsP (P : Program) (fa : List He.Fa) (fn : List He.DefD) (ex : List ExD) (fb : List Fb) (fq : List Fp) (fp : List He5.DefA) (K : Fg) : AlP := (obsR P fa fn ex fb K, ((fq.all fun f => f.ok K) && fp.all fun d => d.ok K, fp.map fun d => He5.fnA K (d.at_ K)))
def SaysP (P : Program) (fa : List He.Fa) (fn : List He.DefD) (ex : List ExD) (fb : List Fb) (fq : List Fp) (fp : List He5.DefA) (K : Fg) : Prop := obsP P fa fn ex fb fq fp K = ((valQ fn ex, true), (true, fp.map He5.DefA.val))
def obsPG (P : Program) (n : Nat) (fa : List He.Fa) (fn : List He.DefD) (ex : List ExD) (fb : List Fb) (fq : List Fp) (fp : List He5.DefA) (g : Addr → Option Obj) : AlP := obsP P fa fn ex fb fq fp (He.frG g (asQ g n))
def hookP (P : Program) (n : Nat) (fa : List He.Fa) (fn : List He.DefD) (ex : List ExD) (fb : List Fb) (fq : List Fp) (fp : List He5.DefA) : PySem.W.Hook where
  α := AlP
  obs := fun s => obsPG P n fa fn ex fb fq fp s.heap.get?
  val := fun _ => ((valQ fn ex, true), (true, fp.map He5.DefA.val))
  says := fun _ h => ∃ K : PySem.W.Frag, K.In h ∧ SaysP P fa fn ex fb fq fp K
  of := fun _ _ e => ⟨_, He.frG_in, e⟩
  keeps := fun _ _ _ ⟨K, hK, c⟩ k => ⟨K, PySem.W.Frag.In.keeps hK k, c⟩
theorem obsPG_eq {P : Program} {n : Nat} {fa : List He.Fa} {fn : List He.DefD} {ex : List ExD} {fb : List Fb} {fq : List Fp} {fp : List He5.DefA} {g : Addr → Option Obj} {s : Shared} (h : ∀ a, g a = s.heap.get? a) : obsPG P n fa fn ex fb fq fp g = (hookP P n fa fn ex fb fq fp).obs s := by
  have e : g = s.heap.get? := funext h
  rw [e] <;> rfl
end Qy

set_option Elab.async false
set_option linter.all false
set_option maxRecDepth 100000
set_option maxHeartbeats 0
namespace Wk
noncomputable section
open PySem PySem.Spec PySem.Calls L2 PyProof.Rows Qy
section
variable {k : Nat} {A : Around}
theorem ru0 (r : Room k A) : A.units < cLine := by have := r.un; omega
theorem ru1 (r : Room k A) : A.units + 1 < cLine := by have := r.un; omega
theorem ru2 (r : Room k A) : A.units + 2 < cLine := by have := r.un; omega
theorem ru64 (r : Room k A) : A.units + 64 < cLine := by have := r.un; omega
theorem ru65 (r : Room k A) : A.units + 65 < cLine := by have := r.un; omega
theorem ru70 (r : Room k A) : A.units + 70 < cLine := by have := r.un; omega
theorem ru80 (r : Room k A) : A.units + 80 < cLine := by have := r.un; omega
end
abbrev P : Program := PySem.Challenge.pw_giftrings_k06_kin
def top (i : Nat) : Stmt := P.main.body.getD i (.Pass ⟨0, 0, 0, 0⟩)
def fa0 : List He.Fa := [.free "int",
  .free "range",
  .free "len",
  .glo "_law_cell",
  .glo "_law_draws",
  .glo "_law_people",
  .free "list",
  .free "tuple",
  .glo "_law_lot",
  .glo "_law_groups",
  .free "isinstance",
  .free "str"]
def fa1 : List He.Fa := [.free "sorted",
  .glo "_law_due",
  .free "all",
  .glo "_law_equal",
  .free "dict",
  .free "bool",
  .exm "BadGroups" "BadGroups" true,
  .exm "BadPair" "BadGroups" false,
  .exm "BadPeople" "BadGroups" false,
  .exm "BadGroups" "BadPeople" false,
  .exm "BadPair" "BadPeople" false,
  .exm "BadPeople" "BadPeople" true]
def fa2 : List He.Fa := [.int "MOST_PEOPLE" 24,
  .glo "BadPeople",
  .free "enumerate",
  .str "LETTERS" "abcdefghijklmnopqrstuvwxyz",
  .glo "is_name",
  .glo "check_people",
  .int "MOST_GROUPS" 40,
  .glo "BadGroups",
  .glo "is_person",
  .glo "are_different",
  .glo "is_group",
  .glo "kin"]
def fa3 : List He.Fa := [.int "MOST_BARRED" 600,
  .glo "BadPair",
  .glo "is_pair",
  .glo "check_pairs",
  .cls "Party",
  .noat "Party" "_people",
  .noat "Party" "_closed",
  .mkr "Party",
  .glo "Party",
  .meth "Party" "barred",
  .noat "BadGroups" "index",
  .noat "BadPeople" "index"]
def fa4 : List He.Fa := [.glo "_law_told",
  .glo "law",
  .free "super",
  .noat "BadPair" "index"]
def fa : List He.Fa := fa0 ++ fa1 ++ fa2 ++ fa3 ++ fa4
def fn0 : List He.DefD := [⟨("_law_draws", none), "_law_draws", "_law_draws", defArgs (top 22), defBody (top 22), defScope (top 22), [], []⟩,
  ⟨("_law_cell", none), "_law_cell", "_law_cell", defArgs (top 21), defBody (top 21), defScope (top 21), [], []⟩,
  ⟨("_law_people", none), "_law_people", "_law_people", defArgs (top 23), defBody (top 23), defScope (top 23), [], []⟩,
  ⟨("_law_lot", none), "_law_lot", "_law_lot", defArgs (top 24), defBody (top 24), defScope (top 24), [], []⟩,
  ⟨("_law_groups", none), "_law_groups", "_law_groups", defArgs (top 28), defBody (top 28), defScope (top 28), [], []⟩,
  ⟨("_law_due", none), "_law_due", "_law_due", defArgs (top 26), defBody (top 26), defScope (top 26), [], []⟩,
  ⟨("_law_equal", none), "_law_equal", "_law_equal", defArgs (top 25), defBody (top 25), defScope (top 25), [], []⟩,
  ⟨("is_name", none), "is_name", "is_name", defArgs (top 11), defBody (top 11), defScope (top 11), [], []⟩,
  ⟨("check_people", none), "check_people", "check_people", defArgs (top 15), defBody (top 15), defScope (top 15), [], []⟩,
  ⟨("is_person", none), "is_person", "is_person", defArgs (top 12), defBody (top 12), defScope (top 12), [], []⟩,
  ⟨("are_different", none), "are_different", "are_different", defArgs (top 13), defBody (top 13), defScope (top 13), [], []⟩,
  ⟨("is_group", none), "is_group", "is_group", defArgs (top 17), defBody (top 17), defScope (top 17), [], []⟩]
def fn1 : List He.DefD := [⟨("kin", none), "kin", "kin", defArgs (top 18), defBody (top 18), defScope (top 18), [], []⟩,
  ⟨("is_pair", none), "is_pair", "is_pair", defArgs (top 14), defBody (top 14), defScope (top 14), [], []⟩,
  ⟨("check_pairs", none), "check_pairs", "check_pairs", defArgs (top 16), defBody (top 16), defScope (top 16), [], []⟩,
  ⟨("Party", some "__init__"), "__init__", "Party.__init__", defArgs (inClass (top 19) 0), defBody (inClass (top 19) 0), defScope (inClass (top 19) 0), [], []⟩,
  ⟨("Party", some "barred"), "barred", "Party.barred", defArgs (inClass (top 19) 2), defBody (inClass (top 19) 2), defScope (inClass (top 19) 2), [], []⟩,
  ⟨("_law_told", none), "_law_told", "_law_told", defArgs (top 27), defBody (top 27), defScope (top 27), [], []⟩,
  ⟨("law", none), "law", "law", defArgs (top 29), defBody (top 29), defScope (top 29), [], []⟩]
def fn : List He.DefD := fn0 ++ fn1
def xd0 : ExD := ⟨"BadPeople", "__init__", "BadPeople.__init__", defArgs (inClass (top 3) 0), defBody (inClass (top 3) 0), defScope (inClass (top 3) 0)⟩
def xd1 : ExD := ⟨"BadGroups", "__init__", "BadGroups.__init__", defArgs (inClass (top 5) 0), defBody (inClass (top 5) 0), defScope (inClass (top 5) 0)⟩
def xd2 : ExD := ⟨"BadPair", "__init__", "BadPair.__init__", defArgs (inClass (top 4) 0), defBody (inClass (top 4) 0), defScope (inClass (top 4) 0)⟩
def ex0 : List ExD := [xd0,
  xd1,
  xd2]
def ex : List ExD := ex0
def fb : List Fb := []
def fq : List Fp := [.cmet "Party" "of_kin"]
def fp : List He5.DefA := [⟨fun K => gAd K "Party" "of_kin" "classmethod", "of_kin", "Party.of_kin", defArgs (inClass (top 19) 6), defBody (inClass (top 19) 6), defScope (inClass (top 19) 6), [], []⟩]
abbrev Says (K : Fg) : Prop := SaysP P fa fn ex fb fq fp K

end
end Wk

set_option maxRecDepth 100000
set_option maxHeartbeats 0
namespace Wk
open PySem PySem.Spec PySem.Calls L2 PyProof.Rows Qy
def ls0 : List Str := ["_wall", "GiftError", "BadPeople", "BadPair", "BadGroups", "LETTERS", "MOST_PEOPLE", "MOST_BARRED", "MOST_GROUPS", "is_name", "is_person", "are_different", "is_pair", "check_people", "check_pairs", "is_group", "kin", "Party", "_law_cell", "_law_draws"]
def ls1 : List Str := ["_law_people", "_law_lot", "_law_equal", "_law_due", "_law_told", "_law_groups"]
abbrev Rr : PySem.W.OpenRow := PySem.W.OpenLaw.row PySem.Challenge.rw_giftrings_k06_kin
abbrev hk : PySem.W.Hook := hookP P 5 fa fn ex fb fq fp
def ob (s : PySem.W.SharedT) : AlP := obsPG P 5 fa fn ex fb fq fp (HandSHeadRun.getT s)
theorem ob_eq (s : PySem.W.SharedT) : ob s = hk.obs s.abs := obsPG_eq (HandSHeadRun.getT_eq s)
def obA (s : PySem.W.SharedT) : Bool × Bool := (fa.all fun f => f.ok (He.frG (HandSHeadRun.getT s) (asQ (HandSHeadRun.getT s) 5)), fb.all fun f => f.ok (He.frG (HandSHeadRun.getT s) (asQ (HandSHeadRun.getT s) 5)))
def obB (s : PySem.W.SharedT) : (Bool × Bool) × List He.FnW × List ExV := ((fn.all fun d => d.ok (He.frG (HandSHeadRun.getT s) (asQ (HandSHeadRun.getT s) 5)), ex.all fun d => d.ok P (He.frG (HandSHeadRun.getT s) (asQ (HandSHeadRun.getT s) 5))), fn.map (fun d => He.fnW (He.frG (HandSHeadRun.getT s) (asQ (HandSHeadRun.getT s) 5)) d.at_), ex.map fun d => exW (He.frG (HandSHeadRun.getT s) (asQ (HandSHeadRun.getT s) 5)) d.cn)
def obC (s : PySem.W.SharedT) : Bool × List He5.FnW := ((fq.all fun f => f.ok (He.frG (HandSHeadRun.getT s) (asQ (HandSHeadRun.getT s) 5))) && fp.all fun d => d.ok (He.frG (HandSHeadRun.getT s) (asQ (HandSHeadRun.getT s) 5)), fp.map fun d => He5.fnA (He.frG (HandSHeadRun.getT s) (asQ (HandSHeadRun.getT s) 5)) (d.at_ (He.frG (HandSHeadRun.getT s) (asQ (HandSHeadRun.getT s) 5))))
theorem ob_parts (w : World) (s : PySem.W.SharedT) (h1 : obA s = (true, true)) (h2 : obB s = ((true, true), fn.map He.DefD.val, ex.map ExD.val)) (h3 : obC s = (true, fp.map He5.DefA.val)) : ob s = hk.val w := by
  have e : ob s = (((((obA s).1 && (obB s).1.1, (obB s).1.2), (obB s).2.1, (obB s).2.2), (obA s).2), obC s) := rfl
  rw [e, h1, h2, h3]
  rfl
abbrev runQ : Program := PySem.W.view Rr.prog [29]
abbrev lss : List Str := ls0 ++ ls1
noncomputable def runE (w : World) (os : OsState) : Option PySem.W.SharedT := HandSHeadRun.endF (HandSHeadRun.stepQ (HandSHeadRun.denQ HandSHeadRun.tabQ) Rr.prog w) 4000 Rr.prog w os
theorem run1 (w : World) (os : OsState) : (runE w os).map (fun s => (HandSHeadRun.looksF Rr.prog (PySem.W.boot_heap w.params) s.abs, HandSHeadRun.seenQ runQ lss (importedModules Rr.prog.main.body) (fun s => PySem.W.xlAt runQ [] s && PySem.W.recOk Rr.toRowW.records s) s.abs)) = some (true, PySem.W.openGood runQ lss) := by
  kernel_rfl
theorem run2 (w : World) (os : OsState) : (runE w os).map (fun s => obA s) = some (true, true) := by
  kernel_rfl
theorem run3 (w : World) (os : OsState) : (runE w os).map (fun s => obB s) = some ((true, true), fn.map He.DefD.val, ex.map ExD.val) := by
  kernel_rfl
theorem run4 (w : World) (os : OsState) : (runE w os).map (fun s => obC s) = some (true, fp.map He5.DefA.val) := by
  kernel_rfl
theorem run (w : World) : HandSHeadRun.RunEq Rr runQ hk ob 4000 lss w := by
  intro os
  obtain ⟨s, e, h1⟩ := Option.map_eq_some_iff.1 (run1 w os)
  have h2 := run2 w os
  have h3 := run3 w os
  have h5 := run4 w os
  rw [e, Option.map_some] at h2 h3 h5
  have h4 := ob_parts w s (Option.some.inj h2) (Option.some.inj h3) (Option.some.inj h5)
  show (runE w os).map _ = _
  rw [e, Option.map_some]
  show some ((HandSHeadRun.looksF Rr.prog (PySem.W.boot_heap w.params) s.abs, HandSHeadRun.seenQ runQ lss (importedModules Rr.prog.main.body) (fun s => PySem.W.xlAt runQ [] s && PySem.W.recOk Rr.toRowW.records s) s.abs, ob s)) = _
  rw [h4, (Prod.mk.inj h1).1, (Prod.mk.inj h1).2]
  rfl
end Wk

set_option Elab.async false
set_option linter.all false
set_option maxRecDepth 100000
/-! Q1: pure data D, what a value stands for (Rp), views of the heap, slots, the relation Rel. -/
namespace Qy
open PySem PySem.Spec L2
/-- pure data -/
inductive D where
  | non
  | bl (b : Bool)
  | int (i : Int)
  | str (s : Str)
  | tup (xs : List D)
  | lst (xs : List D)
  | dk (ks : List Key) (xs : List D)
  | dt (ks : List (List Key)) (xs : List D)
  | obj (c : Str) (ns : List Str) (xs : List D)
  | scr (ns : List Int)
  /-- a dict of n entries, one of whose keys is None -/
  | dn (n : Nat)
  /-- a thing of one's own, inside of a thing of one's own -/
  | my (d : D)
def DnO (a : Addr) (n : Nat) : HO := .ext fun h => n ≤ sizeLine ∧ (a == sysModules) = false ∧ ∃ es ep, PySem.Heap.DictRaw h a es ep ∧ es.size = n
mutual
/-- the value v stands for d in the view S -/
def Rp (K : Fg) (S : Hp) : D → V → Prop
  | .non, v => v = .non
  | .bl b, v => v = .bl b
  | .int i, v => v = .int i
  | .str s, v => v = .str s
  | .tup ds, v => ∃ a vs, v = .ref a ∧ S a = some (.tup vs) ∧ Rps K S ds vs
  | .lst ds, v => ∃ a vs, v = .ref a ∧ S a = some (.lst vs) ∧ Rps K S ds vs
  | .dk ks ds, v => ∃ a kvs, v = .ref a ∧ Rd S a (.dK kvs) ∧ kvs.map (·.1) = ks ∧ Rps K S ds (kvs.map (·.2))
  | .dt ks ds, v => ∃ a kvs, v = .ref a ∧ Rd S a (.dT kvs) ∧ kvs.map (·.1) = ks ∧ Rps K S ds (kvs.map (·.2))
  | .obj c ns ds, v => ∃ a dx fs, v = .ref a ∧ S a = some (.ins (He.ga K c) dx fs) ∧ fs.map (·.1) = ns ∧ Rps K S ds (fs.map (·.2))
  | .scr ns, v => ∃ a, v = .ref a ∧ SqL K S a (ns.map V.int)
  | .dn n, v => ∃ a, v = .ref a ∧ S a = some (DnO a n)
  | .my _, _ => False
def Rps (K : Fg) (S : Hp) : List D → List V → Prop
  | [], vs => vs = []
  | d :: ds, vs => ∃ v r, vs = v :: r ∧ Rp K S d v ∧ Rps K S ds r
end
/-- what stands at an address, as data -/
def Cn (K : Fg) (S : Hp) : D → HO → Prop
  | .lst ds, .lst vs => Rps K S ds vs
  | .dk ks ds, .dK kvs => kvs.map (·.1) = ks ∧ Rps K S ds (kvs.map (·.2))
  | .dt ks ds, .dT kvs => kvs.map (·.1) = ks ∧ Rps K S ds (kvs.map (·.2))
  | .obj c ns ds, .ins C dx fs => C = He.ga K c ∧ fs.map (·.1) = ns ∧ Rps K S ds (fs.map (·.2))
  | _, _ => False
def isF : HO → Bool
  | .frz _ _ => true
  | _ => false
def isT : HO → Bool
  | .tup _ => true
  | _ => false
def isS : HO → Bool
  | .lst _ => true
  | .tup _ => true
  | .ins _ _ _ => true
  | .xd _ => true
  | .ext _ => true
  | _ => false
/-- what S reads S' reads -/
structure Ord (S S' : Hp) : Prop where
  r : ∀ a u, isF u = false → Rd S a u → Rd S' a u
  s : ∀ a u, isS u = true → S a = some u → S' a = some u
theorem Ord.refl (S : Hp) : Ord S S := ⟨fun _ _ _ h => h, fun _ _ _ h => h⟩
theorem Ord.trans {S S1 S2 : Hp} (a : Ord S S1) (b : Ord S1 S2) : Ord S S2 := ⟨fun x u n h => b.r x u n (a.r x u n h), fun x u n h => b.s x u n (a.s x u n h)⟩
theorem Ord.of_same {S S' : Hp} (h : Same S S') : Ord S S' := ⟨fun a u _ r => by
  rcases r with r | ⟨o, r⟩
  · exact .inl (h _ _ r)
  · exact .inr ⟨o, h _ _ r⟩, fun a u _ e => h _ _ e⟩
theorem Ord.l {K : Fg} {S S' : Hp} (o : Ord S S') {a : Addr} {xs : List V} (h : SqL K S a xs) : SqL K S' a xs := by
  rcases h with h | h
  · exact .inl (o.r _ _ rfl h)
  · exact .inr h
mutual
theorem Rp.mono {K : Fg} {S S' : Hp} (o : Ord S S') : ∀ {d : D} {v : V}, Rp K S d v → Rp K S' d v
  | .non, v, h => by simpa only [Rp] using h
  | .bl b, v, h => by simpa only [Rp] using h
  | .int i, v, h => by simpa only [Rp] using h
  | .str s, v, h => by simpa only [Rp] using h
  | .tup ds, v, h => by
    simp only [Rp] at h ⊢
    obtain ⟨a, vs, e, q, r⟩ := h
    exact ⟨a, vs, e, o.s _ _ rfl q, Rps.mono o r⟩
  | .lst ds, v, h => by
    simp only [Rp] at h ⊢
    obtain ⟨a, vs, e, q, r⟩ := h
    exact ⟨a, vs, e, o.s _ _ rfl q, Rps.mono o r⟩
  | .dk ks ds, v, h => by
    simp only [Rp] at h ⊢
    obtain ⟨a, vs, e, q, z, r⟩ := h
    exact ⟨a, vs, e, o.r _ _ rfl q, z, Rps.mono o r⟩
  | .dt ks ds, v, h => by
    simp only [Rp] at h ⊢
    obtain ⟨a, vs, e, q, z, r⟩ := h
    exact ⟨a, vs, e, o.r _ _ rfl q, z, Rps.mono o r⟩
  | .obj c ns ds, v, h => by
    simp only [Rp] at h ⊢
    obtain ⟨a, dx, fs, e, q, z, r⟩ := h
    exact ⟨a, dx, fs, e, o.s _ _ rfl q, z, Rps.mono o r⟩
  | .scr ns, v, h => by
    simp only [Rp] at h ⊢
    obtain ⟨a, e, q⟩ := h
    exact ⟨a, e, o.l q⟩
  | .dn n, v, h => by
    simp only [Rp] at h ⊢
    obtain ⟨a, e, q⟩ := h
    exact ⟨a, e, o.s _ _ rfl q⟩
  | .my _, v, h => by simp only [Rp] at h
theorem Rps.mono {K : Fg} {S S' : Hp} (o : Ord S S') : ∀ {ds : List D} {vs : List V}, Rps K S ds vs → Rps K S' ds vs
  | [], vs, h => by simpa only [Rps] using h
  | d :: ds, vs, h => by
    simp only [Rps] at h ⊢
    obtain ⟨v, r, e, q, z⟩ := h
    exact ⟨v, r, e, Rp.mono o q, Rps.mono o z⟩
end
theorem Cn.mono {K : Fg} {S S' : Hp} (o : Ord S S') {d : D} {u : HO} (h : Cn K S d u) : Cn K S' d u := by
  cases d <;> cases u <;> first
    | exact h.elim
    | exact Rps.mono o h
    | exact ⟨h.1, Rps.mono o h.2⟩
    | exact ⟨h.1, h.2.1, Rps.mono o h.2.2⟩
theorem Cn.nf {K : Fg} {S : Hp} {d : D} {u : HO} (h : Cn K S d u) : isF u = false := by
  cases u with
  | frz _ _ => cases d <;> exact h.elim
  | _ => rfl
theorem Cn.nt {K : Fg} {S : Hp} {d : D} {u : HO} (h : Cn K S d u) : isT u = false := by
  cases u with
  | tup _ => cases d <;> exact h.elim
  | _ => rfl
theorem Cn.rp {K : Fg} {S : Hp} {d : D} {u : HO} {l : Addr} (h : Cn K S d u) (e : S l = some u) : Rp K S d (.ref l) := by
  cases d <;> cases u <;> first
    | exact h.elim
    | (simp only [Rp]; exact ⟨_, _, rfl, e, h⟩)
    | (simp only [Rp]; exact ⟨_, _, rfl, .inl e, h.1, h.2⟩)
    | (simp only [Rp]; obtain ⟨rfl, h2, h3⟩ := h; exact ⟨_, _, _, rfl, e, h2, h3⟩)
/-! ### things that own things -/
mutual
/-- v stands for d: what is marked is one's own (in H, at the addresses F), the rest is seen in S -/
def Rq (K : Fg) (S H : Hp) : D → V → List Addr → Prop
  | .my d, v, F => ∃ a o G, v = .ref a ∧ F = a :: G ∧ H a = some o ∧ Cq K S H d o G
  | .tup ds, v, F => ∃ a vs, v = .ref a ∧ S a = some (.tup vs) ∧ Rqs K S H ds vs F
  | .non, v, F => F = [] ∧ v = .non
  | .bl b, v, F => F = [] ∧ v = .bl b
  | .int i, v, F => F = [] ∧ v = .int i
  | .str s, v, F => F = [] ∧ v = .str s
  | .lst ds, v, F => F = [] ∧ Rp K S (.lst ds) v
  | .dk ks ds, v, F => F = [] ∧ Rp K S (.dk ks ds) v
  | .dt ks ds, v, F => F = [] ∧ Rp K S (.dt ks ds) v
  | .obj c ns ds, v, F => F = [] ∧ Rp K S (.obj c ns ds) v
  | .scr ns, v, F => F = [] ∧ Rp K S (.scr ns) v
  | .dn n, v, F => F = [] ∧ Rp K S (.dn n) v
def Rqs (K : Fg) (S H : Hp) : List D → List V → List Addr → Prop
  | [], vs, F => vs = [] ∧ F = []
  | d :: ds, vs, F => ∃ v r F1 F2, vs = v :: r ∧ F = F1 ++ F2 ∧ Rq K S H d v F1 ∧ Rqs K S H ds r F2
/-- the content of a thing of one's own -/
def Cq (K : Fg) (S H : Hp) : D → HO → List Addr → Prop
  | .lst ds, o, G => ∃ vs, o = .lst vs ∧ Rqs K S H ds vs G
  | .dk ks ds, o, G => ∃ kvs, o = .dK kvs ∧ kvs.map (·.1) = ks ∧ Rqs K S H ds (kvs.map (·.2)) G
  | .dt ks ds, o, G => ∃ kvs, o = .dT kvs ∧ kvs.map (·.1) = ks ∧ Rqs K S H ds (kvs.map (·.2)) G
  | .obj c ns ds, o, G => ∃ dx fs, o = .ins (He.ga K c) dx fs ∧ fs.map (·.1) = ns ∧ Rqs K S H ds (fs.map (·.2)) G
  | _, _, _ => False
end
mutual
theorem Rq.mono {K : Fg} {S S' H H' : Hp} (o : Ord S S') : ∀ {d : D} {v : V} {F : List Addr}, (∀ a ∈ F, ∀ u, H a = some u → H' a = some u) → Rq K S H d v F → Rq K S' H' d v F
  | .my d, v, F, k, h => by
    simp only [Rq] at h ⊢
    obtain ⟨a, u, G, e1, e2, e3, c⟩ := h
    subst e2
    exact ⟨a, u, G, e1, rfl, k a List.mem_cons_self u e3, Cq.mono o (fun b m => k b (List.mem_cons_of_mem _ m)) c⟩
  | .tup ds, v, F, k, h => by
    simp only [Rq] at h ⊢
    obtain ⟨a, vs, e, q, r⟩ := h
    exact ⟨a, vs, e, o.s _ _ rfl q, Rqs.mono o k r⟩
  | .non, v, F, k, h => by simpa only [Rq] using h
  | .bl b, v, F, k, h => by simpa only [Rq] using h
  | .int i, v, F, k, h => by simpa only [Rq] using h
  | .str s, v, F, k, h => by simpa only [Rq] using h
  | .lst ds, v, F, k, h => by simp only [Rq] at h ⊢; exact ⟨h.1, h.2.mono o⟩
  | .dk ks ds, v, F, k, h => by simp only [Rq] at h ⊢; exact ⟨h.1, h.2.mono o⟩
  | .dt ks ds, v, F, k, h => by simp only [Rq] at h ⊢; exact ⟨h.1, h.2.mono o⟩
  | .obj c ns ds, v, F, k, h => by simp only [Rq] at h ⊢; exact ⟨h.1, h.2.mono o⟩
  | .scr ns, v, F, k, h => by simp only [Rq] at h ⊢; exact ⟨h.1, h.2.mono o⟩
  | .dn n, v, F, k, h => by simp only [Rq] at h ⊢; exact ⟨h.1, h.2.mono o⟩
theorem Rqs.mono {K : Fg} {S S' H H' : Hp} (o : Ord S S') : ∀ {ds : List D} {vs : List V} {F : List Addr}, (∀ a ∈ F, ∀ u, H a = some u → H' a = some u) → Rqs K S H ds vs F → Rqs K S' H' ds vs F
  | [], vs, F, k, h => by simpa only [Rqs] using h
  | d :: ds, vs, F, k, h => by
    simp only [Rqs] at h ⊢
    obtain ⟨v, r, F1, F2, e1, e2, q, z⟩ := h
    subst e2
    exact ⟨v, r, F1, F2, e1, rfl, Rq.mono o (fun a m => k a (List.mem_append_left _ m)) q, Rqs.mono o (fun a m => k a (List.mem_append_right _ m)) z⟩
theorem Cq.mono {K : Fg} {S S' H H' : Hp} (o : Ord S S') : ∀ {d : D} {u : HO} {F : List Addr}, (∀ a ∈ F, ∀ u, H a = some u → H' a = some u) → Cq K S H d u F → Cq K S' H' d u F
  | .lst ds, u, F, k, h => by
    simp only [Cq] at h ⊢
    obtain ⟨vs, e, r⟩ := h
    exact ⟨vs, e, Rqs.mono o k r⟩
  | .dk ks ds, u, F, k, h => by
    simp only [Cq] at h ⊢
    obtain ⟨vs, e, e2, r⟩ := h
    exact ⟨vs, e, e2, Rqs.mono o k r⟩
  | .dt ks ds, u, F, k, h => by
    simp only [Cq] at h ⊢
    obtain ⟨vs, e, e2, r⟩ := h
    exact ⟨vs, e, e2, Rqs.mono o k r⟩
  | .obj c ns ds, u, F, k, h => by
    simp only [Cq] at h ⊢
    obtain ⟨dx, vs, e, e2, r⟩ := h
    exact ⟨dx, vs, e, e2, Rqs.mono o k r⟩
  | .my _, u, F, k, h => by simp only [Cq] at h
  | .tup _, u, F, k, h => by simp only [Cq] at h
  | .non, u, F, k, h => by simp only [Cq] at h
  | .bl _, u, F, k, h => by simp only [Cq] at h
  | .int _, u, F, k, h => by simp only [Cq] at h
  | .str _, u, F, k, h => by simp only [Cq] at h
  | .scr _, u, F, k, h => by simp only [Cq] at h
  | .dn _, u, F, k, h => by simp only [Cq] at h
end
mutual
/-- the data without the marks -/
def strip : D → D
  | .my d => strip d
  | .tup ds => .tup (strips ds)
  | .lst ds => .lst (strips ds)
  | .dk ks ds => .dk ks (strips ds)
  | .dt ks ds => .dt ks (strips ds)
  | .obj c ns ds => .obj c ns (strips ds)
  | .non => .non
  | .bl b => .bl b
  | .int i => .int i
  | .str s => .str s
  | .scr ns => .scr ns
  | .dn n => .dn n
def strips : List D → List D
  | [] => []
  | d :: ds => strip d :: strips ds
end
mutual
/-- nothing is marked -/
def nomy : D → Bool
  | .my _ => false
  | .tup ds => nomys ds
  | .lst ds => nomys ds
  | .dk _ ds => nomys ds
  | .dt _ ds => nomys ds
  | .obj _ _ ds => nomys ds
  | _ => true
def nomys : List D → Bool
  | [] => true
  | d :: ds => nomy d && nomys ds
end
mutual
theorem strip_no {K : Fg} {S : Hp} : ∀ {d : D} {v : V}, Rp K S d v → strip d = d
  | .my _, v, h => by simp only [Rp] at h
  | .tup ds, v, h => by simp only [Rp] at h; obtain ⟨a, vs, _, _, r⟩ := h; simp only [strip, strips_no r]
  | .lst ds, v, h => by simp only [Rp] at h; obtain ⟨a, vs, _, _, r⟩ := h; simp only [strip, strips_no r]
  | .dk ks ds, v, h => by simp only [Rp] at h; obtain ⟨a, vs, _, _, _, r⟩ := h; simp only [strip, strips_no r]
  | .dt ks ds, v, h => by simp only [Rp] at h; obtain ⟨a, vs, _, _, _, r⟩ := h; simp only [strip, strips_no r]
  | .obj c ns ds, v, h => by simp only [Rp] at h; obtain ⟨a, dx, vs, _, _, _, r⟩ := h; simp only [strip, strips_no r]
  | .non, _, _ => rfl
  | .bl _, _, _ => rfl
  | .int _, _, _ => rfl
  | .str _, _, _ => rfl
  | .scr _, _, _ => rfl
  | .dn _, _, _ => rfl
theorem strips_no {K : Fg} {S : Hp} : ∀ {ds : List D} {vs : List V}, Rps K S ds vs → strips ds = ds
  | [], _, _ => rfl
  | d :: ds, vs, h => by
    simp only [Rps] at h
    obtain ⟨v, r, _, q, z⟩ := h
    simp only [strips, strip_no q, strips_no z]
end
mutual
theorem Rq.rp {K : Fg} {S H : Hp} (o : Ord S H) : ∀ {d : D} {v : V} {F : List Addr}, Rq K S H d v F → Rp K H (strip d) v
  | .my d, v, F, h => by
    simp only [Rq] at h
    obtain ⟨a, u, G, e1, e2, e3, c⟩ := h
    subst e1
    simp only [strip]
    exact Cq.rp o e3 c
  | .tup ds, v, F, h => by
    simp only [Rq] at h
    obtain ⟨a, vs, e, q, r⟩ := h
    simp only [strip, Rp]
    exact ⟨a, vs, e, o.s _ _ rfl q, Rqs.rp o r⟩
  | .non, v, F, h => by simp only [Rq] at h; simp only [strip, Rp]; exact h.2
  | .bl b, v, F, h => by simp only [Rq] at h; simp only [strip, Rp]; exact h.2
  | .int i, v, F, h => by simp only [Rq] at h; simp only [strip, Rp]; exact h.2
  | .str s, v, F, h => by simp only [Rq] at h; simp only [strip, Rp]; exact h.2
  | .lst ds, v, F, h => by simp only [Rq] at h; rw [strip_no h.2]; exact h.2.mono o
  | .dk ks ds, v, F, h => by simp only [Rq] at h; rw [strip_no h.2]; exact h.2.mono o
  | .dt ks ds, v, F, h => by simp only [Rq] at h; rw [strip_no h.2]; exact h.2.mono o
  | .obj c ns ds, v, F, h => by simp only [Rq] at h; rw [strip_no h.2]; exact h.2.mono o
  | .scr ns, v, F, h => by simp only [Rq] at h; rw [strip_no h.2]; exact h.2.mono o
  | .dn n, v, F, h => by simp only [Rq] at h; rw [strip_no h.2]; exact h.2.mono o
theorem Rqs.rp {K : Fg} {S H : Hp} (o : Ord S H) : ∀ {ds : List D} {vs : List V} {F : List Addr}, Rqs K S H ds vs F → Rps K H (strips ds) vs
  | [], vs, F, h => by simp only [Rqs] at h; simp only [strips, Rps]; exact h.1
  | d :: ds, vs, F, h => by
    simp only [Rqs] at h
    obtain ⟨v, r, F1, F2, e1, e2, q, z⟩ := h
    simp only [strips, Rps]
    exact ⟨v, r, e1, Rq.rp o q, Rqs.rp o z⟩
theorem Cq.rp {K : Fg} {S H : Hp} (o : Ord S H) : ∀ {d : D} {u : HO} {F : List Addr} {a : Addr}, H a = some u → Cq K S H d u F → Rp K H (strip d) (.ref a)
  | .lst ds, u, F, a, e, h => by
    simp only [Cq] at h
    obtain ⟨vs, rfl, r⟩ := h
    simp only [strip, Rp]
    exact ⟨a, vs, rfl, e, Rqs.rp o r⟩
  | .dk ks ds, u, F, a, e, h => by
    simp only [Cq] at h
    obtain ⟨vs, rfl, e2, r⟩ := h
    simp only [strip, Rp]
    exact ⟨a, vs, rfl, .inl e, e2, Rqs.rp o r⟩
  | .dt ks ds, u, F, a, e, h => by
    simp only [Cq] at h
    obtain ⟨vs, rfl, e2, r⟩ := h
    simp only [strip, Rp]
    exact ⟨a, vs, rfl, .inl e, e2, Rqs.rp o r⟩
  | .obj c ns ds, u, F, a, e, h => by
    simp only [Cq] at h
    obtain ⟨dx, vs, rfl, e2, r⟩ := h
    simp only [strip, Rp]
    exact ⟨a, dx, vs, rfl, e, e2, Rqs.rp o r⟩
  | .my _, u, F, a, e, h => by simp only [Cq] at h
  | .tup _, u, F, a, e, h => by simp only [Cq] at h
  | .non, u, F, a, e, h => by simp only [Cq] at h
  | .bl _, u, F, a, e, h => by simp only [Cq] at h
  | .int _, u, F, a, e, h => by simp only [Cq] at h
  | .str _, u, F, a, e, h => by simp only [Cq] at h
  | .scr _, u, F, a, e, h => by simp only [Cq] at h
  | .dn _, u, F, a, e, h => by simp only [Cq] at h
end
/-! ### views -/
open Classical in
noncomputable def hide (X : Addr → Prop) (H : Hp) : Hp := fun a => if X a then none else H a
theorem hide_in {X : Addr → Prop} {H : Hp} {a : Addr} (h : X a) : hide X H a = none := by unfold hide; rw [if_pos h]
theorem hide_out {X : Addr → Prop} {H : Hp} {a : Addr} (h : ¬ X a) : hide X H a = H a := by unfold hide; rw [if_neg h]
theorem hide_some {X : Addr → Prop} {H : Hp} {a : Addr} {o : HO} (h : hide X H a = some o) : ¬ X a ∧ H a = some o := by
  by_cases x : X a
  · rw [hide_in x] at h; cases h
  · rw [hide_out x] at h; exact ⟨x, h⟩
theorem hide_ord {X X' : Addr → Prop} {H H' : Hp} (hx : ∀ a, ¬ X a → H a ≠ none → ¬ X' a) (s : ∀ a o, ¬ X a → H a = some o → H' a = some o) : Ord (hide X H) (hide X' H') := by
  have key : ∀ a u, hide X H a = some u → hide X' H' a = some u := fun a u r => by
    obtain ⟨n, e⟩ := hide_some r
    rw [hide_out (hx a n (by rw [e]; simp))]
    exact s _ _ n e
  exact Ord.of_same key
theorem hide_le {X : Addr → Prop} {H : Hp} : Ord (hide X H) H := Ord.of_same fun a u r => (hide_some r).2
structure Kp where
  Xh : Addr → Prop
  B : Hp
  P : List Addr
  /-- an exception in hand, its dict -/
  xa : Addr := 0
  xd : Value × Option Addr := (.none, none)
noncomputable abbrev vw (κ : Kp) (Wo : Addr → Prop) (H : Hp) : Hp := hide (fun a => Wo a ∨ κ.Xh a) H
inductive Slot where
  | no
  | sh (d : D)
  | ow (t : Option Nat) (d : D)
  | bw (d : D)
  /-- the exception in hand -/
  | xc (d : D)
  /-- a thing of one's own that owns things -/
  | dp (t : Option Nat) (d : D)
/-- what an exception's class and dict say -/
def Xd (K : Fg) (S : Hp) (d : D) (x : Value × Option Addr) : Prop := match d with
  | .obj c ns ds => x.1 = .ref (He.ga K c) ∧ (ns = [] ∨ ∃ a fs, x.2 = some a ∧ S a = some (.xd fs) ∧ fs.map (·.1) = ns ∧ Rps K S ds (fs.map (·.2)))
  | _ => False
theorem Xd.mono {K : Fg} {S S' : Hp} (o : Ord S S') {d : D} {x : Value × Option Addr} (h : Xd K S d x) : Xd K S' d x := by
  cases d <;> try exact h.elim
  obtain ⟨h1, h⟩ := h
  refine ⟨h1, ?_⟩
  rcases h with h | ⟨a, fs, e1, e2, e3, e4⟩
  · exact .inl h
  · exact .inr ⟨a, fs, e1, o.s _ _ rfl e2, e3, e4.mono o⟩
abbrev Rho := List Slot
/-- what the slots of things that own things hold, and that they share nothing -/
structure DpOk (K : Fg) (κ : Kp) (ρ : Rho) (Wo : Addr → Prop) (σ : L2.St) (H : Hp) (Fp : Nat → List Addr) : Prop where
  at_ : ∀ (i : Nat) (t : Option Nat) (d : D), ρ[i]? = some (.dp t d) → ∃ v : V, σ[i]? = some (some v) ∧ Rq K (vw κ Wo H) H d v (Fp i) ∧ (∀ a ∈ Fp i, Wo a) ∧ (Fp i).Nodup ∧ ∀ k, t = some k → ∃ l, v = .ref l ∧ κ.P[k]? = some l
  dd : ∀ (i j : Nat) (t t' : Option Nat) (d d' : D), i ≠ j → ρ[i]? = some (.dp t d) → ρ[j]? = some (.dp t' d') → ∀ a ∈ Fp i, a ∉ Fp j
  dw : ∀ (i j : Nat) (t t' : Option Nat) (d d' : D) (l : Addr), ρ[i]? = some (.dp t d) → ρ[j]? = some (.ow t' d') → σ[j]? = some (some (.ref l)) → l ∉ Fp i
def DpX (K : Fg) (κ : Kp) (ρ : Rho) (Wo : Addr → Prop) (σ : L2.St) (H : Hp) : Prop := ∃ Fp, DpOk K κ ρ Wo σ H Fp
theorem DpX.none {K : Fg} {κ : Kp} {ρ : Rho} {Wo : Addr → Prop} {σ : L2.St} {H : Hp} (h : ∀ (i : Nat) (t : Option Nat) (d : D), ρ[i]? ≠ some (.dp t d)) : DpX K κ ρ Wo σ H := ⟨fun _ => [], fun i t d e => (h i t d e).elim, fun i _ t _ d _ _ e => (h i t d e).elim, fun i _ t _ d _ _ e => (h i t d e).elim⟩
theorem DpX.tr {K : Fg} {κ κ' : Kp} {ρ ρ' : Rho} {Wo Wo' : Addr → Prop} {σ σ' : L2.St} {H H' : Hp} (h : DpX K κ ρ Wo σ H)
    (hs : ∀ (i : Nat) (t : Option Nat) (d : D), ρ'[i]? = some (.dp t d) → ρ[i]? = some (.dp t d) ∧ (σ[i]? = σ'[i]?) ∧ ∀ k l, t = some k → κ.P[k]? = some l → κ'.P[k]? = some l)
    (ho : ∀ (j : Nat) (t : Option Nat) (e : D) (l : Addr), ρ'[j]? = some (.ow t e) → σ'[j]? = some (some (.ref l)) → (∃ t' e', ρ[j]? = some (.ow t' e') ∧ σ[j]? = some (some (.ref l))) ∨ ¬ Wo l)
    (hw : ∀ a, Wo a → (∀ (j : Nat) (t : Option Nat) (e : D), ρ[j]? = some (.ow t e) → σ[j]? ≠ some (some (.ref a))) → Wo' a ∧ ∀ u, H a = some u → H' a = some u)
    (o : Ord (vw κ Wo H) (vw κ' Wo' H')) : DpX K κ' ρ' Wo' σ' H' := by
  obtain ⟨Fp, h1, h2, h3⟩ := h
  refine ⟨Fp, fun i t d e => ?_, fun i j t t' d d' n e1 e2 => h2 i j t t' d d' n (hs _ _ _ e1).1 (hs _ _ _ e2).1, fun i j t t' d d' l e1 e2 e3 m => ?_⟩
  · obtain ⟨e1, e2, e3⟩ := hs i t d e
    obtain ⟨v, q1, q2, q3, q4, q5⟩ := h1 i t d e1
    have key : ∀ a ∈ Fp i, Wo' a ∧ ∀ u, H a = some u → H' a = some u := fun a m => hw a (q3 a m) fun j t' e' z1 z2 => h3 i j t t' d e' a e1 z1 z2 m
    exact ⟨v, by rw [← e2]; exact q1, q2.mono o fun a m => (key a m).2, fun a m => (key a m).1, q4, fun k ek => let ⟨l, z1, z2⟩ := q5 k ek; ⟨l, z1, e3 k l ek z2⟩⟩
  · obtain ⟨z1, _, _⟩ := hs i t d e1
    rcases ho j t' d' l e2 e3 with ⟨t2, d2, y1, y2⟩ | y
    · exact h3 i j t t2 d d2 l z1 y1 y2 m
    · obtain ⟨v, _, _, q3, _⟩ := h1 i t d z1
      exact y (q3 l m)
theorem DpX.keep {K : Fg} {κ κ' : Kp} {ρ : Rho} {Wo Wo' : Addr → Prop} {σ : L2.St} {H H' : Hp} (h : DpX K κ ρ Wo σ H) (hw : ∀ a, Wo a → (∀ (j : Nat) (t : Option Nat) (e : D), ρ[j]? = some (.ow t e) → σ[j]? ≠ some (some (.ref a))) → Wo' a ∧ ∀ u, H a = some u → H' a = some u)
    (o : Ord (vw κ Wo H) (vw κ' Wo' H')) (hp : ∀ (k : Nat) (l : Addr), κ.P[k]? = some l → κ'.P[k]? = some l := by exact fun _ _ z => z) : DpX K κ' ρ Wo' σ H' :=
  h.tr (fun _ _ _ e => ⟨e, rfl, fun k l _ => hp k l⟩) (fun _ t e l z1 z2 => .inl ⟨t, e, z1, z2⟩) hw o
structure Rel (K : Fg) (κ : Kp) (ρ : Rho) (Wo : Addr → Prop) (σ : L2.St) (H : Hp) : Prop where
  len : ρ.length = σ.length
  sh : ∀ (i : Nat) (d : D), ρ[i]? = some (.sh d) → ∃ v : V, σ[i]? = some (some v) ∧ Rp K (vw κ Wo H) d v
  ow : ∀ (i : Nat) (t : Option Nat) (d : D), ρ[i]? = some (.ow t d) → ∃ (l : Addr) (o : HO), σ[i]? = some (some (.ref l)) ∧ Wo l ∧ H l = some o ∧ Cn K (vw κ Wo H) d o ∧ ∀ k, t = some k → κ.P[k]? = some l
  dj : ∀ (i j : Nat) (t t' : Option Nat) (d d' : D) (l : Addr), ρ[i]? = some (.ow t d) → ρ[j]? = some (.ow t' d') → σ[i]? = some (some (.ref l)) → σ[j]? = some (some (.ref l)) → i = j
  bw : ∀ (i : Nat) (d : D), ρ[i]? = some (.bw d) → ∃ v : V, σ[i]? = some (some v) ∧ Rp K κ.B d v
  bo : Ord κ.B H
  bd : ∀ l, H l = none → κ.B l = none
  bn : ∀ l, Wo l → κ.B l = none
  ht : ∀ l, (Wo l ∨ κ.Xh l) → H l ≠ none
  nx : ∀ l, Wo l → ¬ κ.Xh l
  tu : ∀ l xs, (Wo l ∨ κ.Xh l) → H l ≠ some (.tup xs)
  xc : ∀ (i : Nat) (d : D), ρ[i]? = some (.xc d) → σ[i]? = some (some (.ref κ.xa)) ∧ Xd K (vw κ Wo H) d κ.xd
  dp : DpX K κ ρ Wo σ H
section
variable {K : Fg} {κ : Kp} {ρ : Rho} {Wo : Addr → Prop} {σ : L2.St} {H H' : Hp}
theorem Ord.vws (s : Same H H') : Ord (vw κ Wo H) (vw κ Wo H') := hide_ord (fun _ n _ => n) (fun a o _ e => s a o e)
theorem Rel.same (r : Rel K κ ρ Wo σ H) (s : Same H H') : Rel K κ ρ Wo σ H' where
  len := r.len
  sh := fun i d e => let ⟨v, e1, q⟩ := r.sh i d e; ⟨v, e1, q.mono (Ord.vws s)⟩
  xc := fun i d e => let ⟨e1, q⟩ := r.xc i d e; ⟨e1, q.mono (Ord.vws s)⟩
  ow := fun i t d e => let ⟨l, o, e1, w, h, c, k⟩ := r.ow i t d e; ⟨l, o, e1, w, s _ _ h, c.mono (Ord.vws s), k⟩
  dj := r.dj
  bw := r.bw
  bo := r.bo.trans (Ord.of_same s)
  bd := fun l e => r.bd l (s.free e)
  bn := r.bn
  ht := fun l w => by
    cases e : H l with
    | none => exact absurd e (r.ht l w)
    | some o => rw [s _ _ e]; simp
  nx := r.nx
  tu := fun l xs w e => by
    cases z : H l with
    | none => exact r.ht l w z
    | some o =>
      rw [s _ _ z] at e
      rw [Option.some.inj e] at z
      exact r.tu l xs w z
  dp := r.dp.tr (fun _ _ _ e => ⟨e, rfl, fun _ _ _ z => z⟩) (fun _ t e l z1 z2 => .inl ⟨t, e, z1, z2⟩) (fun a w _ => ⟨w, fun u z => s _ _ z⟩) (Ord.vws s)
theorem Rel.free (r : Rel K κ ρ Wo σ H) {p : Addr} (h : H p = none) : ¬ (Wo p ∨ κ.Xh p) := fun w => r.ht p w h
/-- a new thing is seen -/
theorem Rel.new_at (r : Rel K κ ρ Wo σ H) {p : Addr} {o : HO} (h : H p = none) (e : H' p = some o) : vw κ Wo H' p = some o := (hide_out (r.free h)).trans e
theorem set_at {α : Type} {l : List α} {i j : Nat} {x y : α} (h : (l.set i x)[j]? = some y) : (i = j ∧ x = y ∧ i < l.length) ∨ (i ≠ j ∧ l[j]? = some y) := by
  by_cases hj : i = j
  · subst hj
    rw [List.getElem?_set_self'] at h
    cases hr : l[i]? with
    | none => rw [hr] at h; cases h
    | some z =>
      rw [hr] at h
      exact .inl ⟨rfl, Option.some.inj h, (List.getElem?_eq_some_iff.mp hr).1⟩
  · rw [List.getElem?_set_ne hj] at h
    exact .inr ⟨hj, h⟩
theorem set_got {α : Type} {l : List α} {i : Nat} {x : α} (h : i < l.length) : (l.set i x)[i]? = some x := by rw [List.getElem?_set_self h]
theorem set_else {α : Type} {l : List α} {i j : Nat} {x : α} (h : i ≠ j) : (l.set i x)[j]? = l[j]? := List.getElem?_set_ne h
/-- a slot gets a shared value -/
theorem Rel.set (r : Rel K κ ρ Wo σ H) {i : Nat} {v : V} {d : D} (q : Rp K (vw κ Wo H) d v) : Rel K κ (ρ.set i (.sh d)) Wo (σ.set i (some v)) H where
  len := by simp [r.len]
  sh := fun j e h => by
    rcases set_at h with ⟨rfl, z, hl⟩ | ⟨n, h⟩
    · cases z
      exact ⟨v, set_got (by rw [← r.len]; exact hl), q⟩
    · rw [set_else n]; exact r.sh j e h
  xc := fun j e h => by
    rcases set_at h with ⟨rfl, z, hl⟩ | ⟨n, h⟩
    · cases z
    · rw [set_else n]; exact r.xc j e h
  ow := fun j t e h => by
    rcases set_at h with ⟨rfl, z, hl⟩ | ⟨n, h⟩
    · cases z
    · rw [set_else n]; exact r.ow j t e h
  dj := fun j k t t' d1 d2 l h1 h2 h3 h4 => by
    rcases set_at h1 with ⟨rfl, z, hl⟩ | ⟨n1, h1⟩
    · cases z
    rcases set_at h2 with ⟨rfl, z, hl⟩ | ⟨n2, h2⟩
    · cases z
    rw [set_else n1] at h3; rw [set_else n2] at h4
    exact r.dj j k t t' d1 d2 l h1 h2 h3 h4
  bw := fun j e h => by
    rcases set_at h with ⟨rfl, z, hl⟩ | ⟨n, h⟩
    · cases z
    · rw [set_else n]; exact r.bw j e h
  bo := r.bo
  bd := r.bd
  bn := r.bn
  ht := r.ht
  nx := r.nx
  tu := r.tu
  dp := r.dp.tr (fun j t e h => by
    rcases set_at h with ⟨rfl, z, hl⟩ | ⟨n, h⟩
    · cases z
    · exact ⟨h, (set_else n).symm, fun _ _ _ z => z⟩) (fun j t e l h1 h2 => by
    rcases set_at h1 with ⟨rfl, z, hl⟩ | ⟨n, h1⟩
    · cases z
    · rw [set_else n] at h2; exact .inl ⟨t, e, h1, h2⟩) (fun a w _ => ⟨w, fun u z => z⟩) (Ord.refl _)
/-- a slot whose value is forgotten -/
theorem Rel.setNo (r : Rel K κ ρ Wo σ H) {i : Nat} {x : Option V} : Rel K κ (ρ.set i .no) Wo (σ.set i x) H where
  len := by simp [r.len]
  sh := fun j e h => by
    rcases set_at h with ⟨rfl, z, hl⟩ | ⟨n, h⟩
    · cases z
    · rw [set_else n]; exact r.sh j e h
  xc := fun j e h => by
    rcases set_at h with ⟨rfl, z, hl⟩ | ⟨n, h⟩
    · cases z
    · rw [set_else n]; exact r.xc j e h
  ow := fun j t e h => by
    rcases set_at h with ⟨rfl, z, hl⟩ | ⟨n, h⟩
    · cases z
    · rw [set_else n]; exact r.ow j t e h
  dj := fun j k t t' d1 d2 l h1 h2 h3 h4 => by
    rcases set_at h1 with ⟨rfl, z, hl⟩ | ⟨n1, h1⟩
    · cases z
    rcases set_at h2 with ⟨rfl, z, hl⟩ | ⟨n2, h2⟩
    · cases z
    rw [set_else n1] at h3; rw [set_else n2] at h4
    exact r.dj j k t t' d1 d2 l h1 h2 h3 h4
  bw := fun j e h => by
    rcases set_at h with ⟨rfl, z, hl⟩ | ⟨n, h⟩
    · cases z
    · rw [set_else n]; exact r.bw j e h
  bo := r.bo
  bd := r.bd
  bn := r.bn
  ht := r.ht
  nx := r.nx
  tu := r.tu
  dp := r.dp.tr (fun j t e h => by
    rcases set_at h with ⟨rfl, z, hl⟩ | ⟨n, h⟩
    · cases z
    · exact ⟨h, (set_else n).symm, fun _ _ _ z => z⟩) (fun j t e l h1 h2 => by
    rcases set_at h1 with ⟨rfl, z, hl⟩ | ⟨n, h1⟩
    · cases z
    · rw [set_else n] at h2; exact .inl ⟨t, e, h1, h2⟩) (fun a w _ => ⟨w, fun u z => z⟩) (Ord.refl _)
/-- one more owned address -/
def wPlus (Wo : Addr → Prop) (p : Addr) : Addr → Prop := fun a => Wo a ∨ a = p
def wMinus (Wo : Addr → Prop) (p : Addr) : Addr → Prop := fun a => Wo a ∧ a ≠ p
theorem vw_plus (r : Rel K κ ρ Wo σ H) {p : Addr} (hp : H p = none) (s : Same H H') : Ord (vw κ Wo H) (vw κ (wPlus Wo p) H') := hide_ord (fun a n e z => by
    rcases z with (z | z) | z
    · exact n (.inl z)
    · rw [z] at e; exact e hp
    · exact n (.inr z)) (fun a o _ e => s a o e)
/-- a slot gets a new thing that is owned -/
theorem Rel.own (r : Rel K κ ρ Wo σ H) {i : Nat} {p : Addr} {o : HO} {d : D} (hp : H p = none) (s : Same H H') (e : H' p = some o) (c : Cn K (vw κ (wPlus Wo p) H') d o) :
    Rel K κ (ρ.set i (.ow none d)) (wPlus Wo p) (σ.set i (some (.ref p))) H' where
  len := by simp [r.len]
  sh := fun j e h => by
    rcases set_at h with ⟨rfl, z, hl⟩ | ⟨n, h⟩
    · cases z
    · rw [set_else n]
      obtain ⟨v, e1, q⟩ := r.sh j e h
      exact ⟨v, e1, q.mono (vw_plus r hp s)⟩
  xc := fun j e h => by
    rcases set_at h with ⟨rfl, z, hl⟩ | ⟨n, h⟩
    · cases z
    · rw [set_else n]
      obtain ⟨e1, q⟩ := r.xc j e h
      exact ⟨e1, q.mono (vw_plus r hp s)⟩
  ow := fun j t e' h => by
    rcases set_at h with ⟨rfl, z, hl⟩ | ⟨n, h⟩
    · cases z
      exact ⟨p, o, set_got (by rw [← r.len]; exact hl), .inr rfl, e, c, fun k q => nomatch q⟩
    · rw [set_else n]
      obtain ⟨l, o', e1, w, h1, c1, k⟩ := r.ow j t e' h
      exact ⟨l, o', e1, .inl w, s _ _ h1, c1.mono (vw_plus r hp s), k⟩
  dj := fun j k t t' d1 d2 l h1 h2 h3 h4 => by
    have ne : ∀ (m : Nat) (t : Option Nat) (d : D), ρ[m]? = some (.ow t d) → σ[m]? = some (some (.ref p)) → False := fun m t d a b => by
      obtain ⟨l', o', e1, w, h1, _⟩ := r.ow m t d a
      rw [b] at e1; cases e1
      rw [hp] at h1; cases h1
    have hσ : ∀ {m : Nat}, m < ρ.length → (σ.set m (some (V.ref p)))[m]? = some (some (V.ref p)) := fun {m} hl => set_got (by rw [← r.len]; exact hl)
    rcases set_at h1 with ⟨rfl, z, hl⟩ | ⟨n1, h1⟩
    · rcases set_at h2 with ⟨rfl, z, hl⟩ | ⟨n2, h2⟩
      · rfl
      · rw [hσ hl] at h3; cases h3
        rw [set_else n2] at h4
        exact (ne _ _ _ h2 h4).elim
    · rcases set_at h2 with ⟨rfl, z, hl⟩ | ⟨n2, h2⟩
      · rw [hσ hl] at h4; cases h4
        rw [set_else n1] at h3
        exact (ne _ _ _ h1 h3).elim
      · rw [set_else n1] at h3; rw [set_else n2] at h4
        exact r.dj j k t t' d1 d2 l h1 h2 h3 h4
  bw := fun j e h => by
    rcases set_at h with ⟨rfl, z, hl⟩ | ⟨n, h⟩
    · cases z
    · rw [set_else n]; exact r.bw j e h
  bo := r.bo.trans (Ord.of_same s)
  bd := fun l e => r.bd l (s.free e)
  bn := fun l w => by
    rcases w with w | w
    · exact r.bn l w
    · rw [w]; exact r.bd p hp
  ht := fun l w => by
    by_cases q : l = p
    · rw [q, e]; simp
    · have w' : Wo l ∨ κ.Xh l := by
        rcases w with (w | w) | w
        · exact .inl w
        · exact absurd w q
        · exact .inr w
      cases z : H l with
      | none => exact absurd z (r.ht l w')
      | some u => rw [s _ _ z]; simp
  nx := fun l w => by
    rcases w with w | w
    · exact r.nx l w
    · intro z; rw [w] at z; exact r.ht p (.inr z) hp
  tu := fun l xs w q => by
    by_cases z : l = p
    · rw [z, e] at q
      have nt := c.nt
      rw [Option.some.inj q] at nt
      cases nt
    · have w' : Wo l ∨ κ.Xh l := by
        rcases w with (w | w) | w
        · exact .inl w
        · exact absurd w z
        · exact .inr w
      cases y : H l with
      | none => exact r.ht l w' y
      | some u =>
        rw [s _ _ y] at q
        rw [Option.some.inj q] at y
        exact r.tu l xs w' y
  dp := r.dp.tr (fun j t e' h => by
    rcases set_at h with ⟨rfl, z, hl⟩ | ⟨n, h⟩
    · cases z
    · exact ⟨h, (set_else n).symm, fun _ _ _ z => z⟩) (fun j t e' l h1 h2 => by
    rcases set_at h1 with ⟨rfl, z, hl⟩ | ⟨n, h1⟩
    · have q : (σ.set i (some (V.ref p)))[i]? = some (some (V.ref p)) := set_got (by rw [← r.len]; exact hl)
      rw [q] at h2; cases h2
      exact .inr fun w => r.ht p (.inl w) hp
    · rw [set_else n] at h2; exact .inl ⟨t, e', h1, h2⟩) (fun a w _ => ⟨.inl w, fun u z => s _ _ z⟩) (vw_plus r hp s)
/-- a new thing is owned by nobody's slot -/
theorem Rel.plus (r : Rel K κ ρ Wo σ H) {p : Addr} {o : HO} (hp : H p = none) (s : Same H H') (e : H' p = some o) (nt : isT o = false) : Rel K κ ρ (wPlus Wo p) σ H' where
  len := r.len
  sh := fun j e h => let ⟨v, e1, q⟩ := r.sh j e h; ⟨v, e1, q.mono (vw_plus r hp s)⟩
  xc := fun j e h => let ⟨e1, q⟩ := r.xc j e h; ⟨e1, q.mono (vw_plus r hp s)⟩
  ow := fun j t e' h => let ⟨l, o', e1, w, h1, c1, k⟩ := r.ow j t e' h; ⟨l, o', e1, .inl w, s _ _ h1, c1.mono (vw_plus r hp s), k⟩
  dj := r.dj
  bw := r.bw
  bo := r.bo.trans (Ord.of_same s)
  bd := fun l e => r.bd l (s.free e)
  bn := fun l w => by
    rcases w with w | w
    · exact r.bn l w
    · rw [w]; exact r.bd p hp
  ht := fun l w => by
    by_cases q : l = p
    · rw [q, e]; simp
    · have w' : Wo l ∨ κ.Xh l := by
        rcases w with (w | w) | w
        · exact .inl w
        · exact absurd w q
        · exact .inr w
      cases z : H l with
      | none => exact absurd z (r.ht l w')
      | some u => rw [s _ _ z]; simp
  nx := fun l w => by
    rcases w with w | w
    · exact r.nx l w
    · intro z; rw [w] at z; exact r.ht p (.inr z) hp
  tu := fun l xs w q => by
    by_cases z : l = p
    · rw [z, e] at q
      rw [Option.some.inj q] at nt
      cases nt
    · have w' : Wo l ∨ κ.Xh l := by
        rcases w with (w | w) | w
        · exact .inl w
        · exact absurd w z
        · exact .inr w
      cases y : H l with
      | none => exact r.ht l w' y
      | some u =>
        rw [s _ _ y] at q
        rw [Option.some.inj q] at y
        exact r.tu l xs w' y
  dp := r.dp.tr (fun _ _ _ e => ⟨e, rfl, fun _ _ _ z => z⟩) (fun _ t e l z1 z2 => .inl ⟨t, e, z1, z2⟩) (fun a w _ => ⟨.inl w, fun u z => s _ _ z⟩) (vw_plus r hp s)
theorem vw_put {l : Addr} {o : HO} (w : Wo l) : vw κ Wo (upd H l o) = vw κ Wo H := by
  funext a
  by_cases x : Wo a ∨ κ.Xh a
  · show hide _ _ a = hide _ _ a
    rw [hide_in x, hide_in x]
  · show hide _ _ a = hide _ _ a
    rw [hide_out x, hide_out x, upd_ne (fun z => x (.inl (by rw [z]; exact w)))]
theorem Rel.bo_put (r : Rel K κ ρ Wo σ H) {l : Addr} {o : HO} (w : Wo l) : Ord κ.B (upd H l o) := by
  have b0 := r.bn l w
  refine ⟨fun a u n q => ?_, fun a u n q => ?_⟩
  · have ne : a ≠ l := fun z => by
      rw [z] at q
      rcases q with q | ⟨o2, q⟩ <;> rw [b0] at q <;> cases q
    rcases r.bo.r a u n q with q' | ⟨o2, q'⟩
    · exact .inl (by rw [upd_ne ne]; exact q')
    · exact .inr ⟨o2, by rw [upd_ne ne]; exact q'⟩
  · have ne : a ≠ l := fun z => by rw [z, b0] at q; cases q
    rw [upd_ne ne]
    exact r.bo.s a u n q
/-- an owned thing is written -/
theorem Rel.put (r : Rel K κ ρ Wo σ H) {i : Nat} {t : Option Nat} {l : Addr} {o : HO} {d d' : D} (hi : ρ[i]? = some (.ow t d)) (hl : σ[i]? = some (some (.ref l))) (c : Cn K (vw κ Wo H) d' o) :
    Rel K κ (ρ.set i (.ow t d')) Wo σ (upd H l o) := by
  obtain ⟨l', o', e1, w, h1, c1, k1⟩ := r.ow i t d hi
  rw [hl] at e1; cases e1
  have ev := vw_put (κ := κ) (H := H) (o := o) w
  refine ⟨by simp [r.len], fun j e h => ?_, fun j t' e h => ?_, fun j k ta tb d1 d2 m g1 g2 g3 g4 => ?_, fun j e h => ?_, r.bo_put w, fun a e => ?_, r.bn, fun a q => ?_, r.nx, fun a xs q z => ?_, fun j e h => ?_, ?_⟩
  · rcases set_at h with ⟨rfl, z, _⟩ | ⟨n, h⟩
    · cases z
    · rw [ev]; exact r.sh j e h
  · rcases set_at h with ⟨rfl, z, _⟩ | ⟨n, h⟩
    · cases z
      exact ⟨l, o, hl, w, upd_same, by rw [ev]; exact c, k1⟩
    · obtain ⟨m, om, e2, w2, h2, c2, k2⟩ := r.ow j t' e h
      have ne : m ≠ l := fun z => n (r.dj i j t t' d e l hi h hl (by rw [e2, z]))
      exact ⟨m, om, e2, w2, by rw [upd_ne ne]; exact h2, by rw [ev]; exact c2, k2⟩
  · have f : ∀ {m : Nat} {t1 : Option Nat} {d1 : D}, (ρ.set i (Slot.ow t d'))[m]? = some (Slot.ow t1 d1) → ∃ t2 d2, ρ[m]? = some (Slot.ow t2 d2) := fun {m t1 d1} g => by
      rcases set_at g with ⟨rfl, z, _⟩ | ⟨n, h⟩
      · exact ⟨_, _, hi⟩
      · exact ⟨_, _, h⟩
    obtain ⟨_, _, f1⟩ := f g1
    obtain ⟨_, _, f2⟩ := f g2
    exact r.dj j k _ _ _ _ m f1 f2 g3 g4
  · rcases set_at h with ⟨rfl, z, _⟩ | ⟨n, h⟩
    · cases z
    · exact r.bw j e h
  · by_cases z : a = l
    · rw [z]; exact r.bn l w
    · rw [upd_ne z] at e; exact r.bd a e
  · by_cases z : a = l
    · rw [z, upd_same]; simp
    · rw [upd_ne z]; exact r.ht a q
  · by_cases y : a = l
    · rw [y, upd_same] at z
      have nt := c.nt
      rw [Option.some.inj z] at nt
      cases nt
    · rw [upd_ne y] at z; exact r.tu a xs q z
  · rcases set_at h with ⟨rfl, z, _⟩ | ⟨n, h⟩
    · cases z
    · rw [ev]; exact r.xc j e h
  · refine r.dp.tr (fun j t' e h => ?_) (fun j t' e m g1 g2 => ?_) (fun a w' na => ⟨w', fun u z => ?_⟩) (by rw [ev]; exact Ord.refl _)
    · rcases set_at h with ⟨rfl, z, hl⟩ | ⟨n, h⟩
      · cases z
      · exact ⟨h, rfl, fun _ _ _ z => z⟩
    · rcases set_at g1 with ⟨rfl, z, _⟩ | ⟨n, g1⟩
      · exact .inl ⟨_, _, hi, g2⟩
      · exact .inl ⟨_, _, g1, g2⟩
    · rw [upd_ne (fun e => na i t d hi (by rw [e]; exact hl))]; exact z
/-- an owned thing is given away -/
theorem Rel.frz (r : Rel K κ ρ Wo σ H) {i : Nat} {d : D} (hi : ρ[i]? = some (.ow none d)) : ∃ l, Wo l ∧ Rel K κ (ρ.set i (.sh d)) (wMinus Wo l) σ H := by
  obtain ⟨l, o, e1, w, h1, c1, _⟩ := r.ow i _ d hi
  have ev : Ord (vw κ Wo H) (vw κ (wMinus Wo l) H) := hide_ord (fun a n _ z => by
    rcases z with ⟨z, _⟩ | z
    · exact n (.inl z)
    · exact n (.inr z)) (fun _ _ _ e => e)
  have nl : ¬ (wMinus Wo l l ∨ κ.Xh l) := fun z => by
    rcases z with ⟨_, z⟩ | z
    · exact z rfl
    · exact r.nx l w z
  refine ⟨l, w, ⟨by simp [r.len], fun j e h => ?_, fun j t' e h => ?_, fun j k t t' d1 d2 m g1 g2 g3 g4 => ?_, fun j e h => ?_, r.bo, r.bd, fun a z => r.bn a z.1, fun a q => ?_, fun a z => r.nx a z.1, fun a xs q => r.tu a xs (q.imp (fun z => z.1) id), fun j e h => ?_, ?_⟩⟩
  · rcases set_at h with ⟨rfl, z, _⟩ | ⟨n, h⟩
    · cases z
      exact ⟨.ref l, e1, (c1.mono ev).rp ((hide_out nl).trans h1)⟩
    · obtain ⟨v, e2, q⟩ := r.sh j e h
      exact ⟨v, e2, q.mono ev⟩
  · rcases set_at h with ⟨rfl, z, _⟩ | ⟨n, h⟩
    · cases z
    · obtain ⟨m, om, e2, w2, h2, c2, k2⟩ := r.ow j t' e h
      have ne : m ≠ l := fun z => n (r.dj i j none t' d e l hi h e1 (by rw [e2, z]))
      exact ⟨m, om, e2, ⟨w2, ne⟩, h2, c2.mono ev, k2⟩
  · rcases set_at g1 with ⟨rfl, z, _⟩ | ⟨n1, g1⟩
    · cases z
    rcases set_at g2 with ⟨rfl, z, _⟩ | ⟨n2, g2⟩
    · cases z
    exact r.dj j k t t' d1 d2 m g1 g2 g3 g4
  · rcases set_at h with ⟨rfl, z, _⟩ | ⟨n, h⟩
    · cases z
    · exact r.bw j e h
  · rcases q with ⟨q, _⟩ | q
    · exact r.ht a (.inl q)
    · exact r.ht a (.inr q)
  · rcases set_at h with ⟨rfl, z, _⟩ | ⟨n, h⟩
    · cases z
    · obtain ⟨e2, q⟩ := r.xc j e h
      exact ⟨e2, q.mono ev⟩
  · refine r.dp.tr (fun j t' e h => ?_) (fun j t' e m g1 g2 => ?_) (fun a w' na => ⟨⟨w', fun e => na i none d hi (by rw [e]; exact e1)⟩, fun u z => z⟩) ev
    · rcases set_at h with ⟨rfl, z, hl⟩ | ⟨n, h⟩
      · cases z
      · exact ⟨h, rfl, fun _ _ _ z => z⟩
    · rcases set_at g1 with ⟨rfl, z, _⟩ | ⟨n, g1⟩
      · cases z
      · exact .inl ⟨_, _, g1, g2⟩
/-- a slot gets the exception in hand -/
theorem Rel.setX (r : Rel K κ ρ Wo σ H) {i : Nat} {d : D} (q : Xd K (vw κ Wo H) d κ.xd) : Rel K κ (ρ.set i (.xc d)) Wo (σ.set i (some (.ref κ.xa))) H where
  len := by simp [r.len]
  sh := fun j e h => by
    rcases set_at h with ⟨rfl, z, hl⟩ | ⟨n, h⟩
    · cases z
    · rw [set_else n]; exact r.sh j e h
  ow := fun j t e h => by
    rcases set_at h with ⟨rfl, z, hl⟩ | ⟨n, h⟩
    · cases z
    · rw [set_else n]; exact r.ow j t e h
  dj := fun j k t t' d1 d2 l h1 h2 h3 h4 => by
    rcases set_at h1 with ⟨rfl, z, hl⟩ | ⟨n1, h1⟩
    · cases z
    rcases set_at h2 with ⟨rfl, z, hl⟩ | ⟨n2, h2⟩
    · cases z
    rw [set_else n1] at h3; rw [set_else n2] at h4
    exact r.dj j k t t' d1 d2 l h1 h2 h3 h4
  bw := fun j e h => by
    rcases set_at h with ⟨rfl, z, hl⟩ | ⟨n, h⟩
    · cases z
    · rw [set_else n]; exact r.bw j e h
  bo := r.bo
  bd := r.bd
  bn := r.bn
  ht := r.ht
  nx := r.nx
  tu := r.tu
  xc := fun j e h => by
    rcases set_at h with ⟨rfl, z, hl⟩ | ⟨n, h⟩
    · cases z
      exact ⟨set_got (by rw [← r.len]; exact hl), q⟩
    · rw [set_else n]; exact r.xc j e h
  dp := r.dp.tr (fun j t e h => by
    rcases set_at h with ⟨rfl, z, hl⟩ | ⟨n, h⟩
    · cases z
    · exact ⟨h, (set_else n).symm, fun _ _ _ z => z⟩) (fun j t e l h1 h2 => by
    rcases set_at h1 with ⟨rfl, z, hl⟩ | ⟨n, h1⟩
    · cases z
    · rw [set_else n] at h2; exact .inl ⟨t, e, h1, h2⟩) (fun a w _ => ⟨w, fun u z => z⟩) (Ord.refl _)
end
end Qy

set_option Elab.async false
set_option linter.all false
set_option maxRecDepth 100000
/-! Q2: the monad of slots, what an expression, a test, arguments, a statement do by a function of the slots. -/
namespace Qy
open PySem PySem.Spec L2
inductive R (α : Type) where
  | ok (a : α) (ρ : Rho)
  | er (e : D) (ρ : Rho)
  | st
abbrev M (α : Type) := Rho → R α
def R.bind {α β : Type} (r : R α) (k : α → M β) : R β := match r with
  | .ok a ρ => k a ρ
  | .er e ρ => .er e ρ
  | .st => .st
def bnd {α β : Type} (f : M α) (k : α → M β) : M β := fun ρ => (f ρ).bind k
def ret {α : Type} (a : α) : M α := fun ρ => .ok a ρ
def stuck {α : Type} : M α := fun _ => .st
def ofO {α : Type} (o : Option α) : M α := fun ρ => match o with
  | some a => .ok a ρ
  | none => .st
/-- what does not hide stays -/
def Fr (Wo : Addr → Prop) (H H' : Hp) : Prop := ∀ b o, ¬ Wo b → H b = some o → H' b = some o
theorem Fr.refl {Wo : Addr → Prop} (H : Hp) : Fr Wo H H := fun _ _ _ e => e
theorem Fr.trans {Wo : Addr → Prop} {H H1 H2 : Hp} (a : Fr Wo H H1) (b : Fr Wo H1 H2) : Fr Wo H H2 := fun x o n e => b x o n (a x o n e)
theorem Fr.same {Wo : Addr → Prop} {H H' : Hp} (s : Same H H') : Fr Wo H H' := fun b o _ e => s b o e
theorem Same.new {H : Hp} {p : Addr} {o : HO} (h : H p = none) : Same H (upd H p o) := fun a u e => by
  rw [upd_ne (ne_of_none e h)]
  exact e
/-- an exception -/
def Xp (K : Fg) (S H : Hp) (e : D) (cls : Value) (dd : Option Addr) : Prop := Xd K S e (cls, dd)
theorem Ord.fr {κ : Kp} {Wo : Addr → Prop} {H H' : Hp} (s : Fr Wo H H') : Ord (vw κ Wo H) (vw κ Wo H') := hide_ord (fun _ n _ => n) (fun a o n e => s a o (fun z => n (.inl z)) e)
section
variable {K : Fg} {κ : Kp} {W : WX} {Wo : Addr → Prop} {σ : L2.St} {H H' : Hp}
/-- the outcome r, by a relation Rr of what is said and what is there -/
def EvG {α β : Type} (Rr : Hp → Hp → α → β → Prop) (K : Fg) (κ : Kp) (W : WX) (Wo : Addr → Prop) (σ : L2.St) (H : Hp) (r : R α) (Q : β → Hp → Prop) : Prop := match r with
  | .ok a ρ => ∀ b H', Fr Wo H H' → Rel K κ ρ Wo σ H' → Rr (vw κ Wo H') H' a b → Q b H'
  | .er e ρ => ∀ cls dd H', Fr Wo H H' → Rel K κ ρ Wo σ H' → Xp K (vw κ Wo H') H' e cls dd → W cls dd σ H'
  | .st => False
theorem EvG.fr {α β : Type} {Rr : Hp → Hp → α → β → Prop} {r : R α} {Q : β → Hp → Prop} (f : Fr Wo H H') (h : EvG Rr K κ W Wo σ H r Q) : EvG Rr K κ W Wo σ H' r Q := by
  cases r with
  | ok a ρ => exact fun b H2 f2 rel rr => h b H2 (f.trans f2) rel rr
  | er e ρ => exact fun c d H2 f2 rel x => h c d H2 (f.trans f2) rel x
  | st => exact h
theorem EvG.imp {α β : Type} {Rr : Hp → Hp → α → β → Prop} {r : R α} {Q Q' : β → Hp → Prop} (h : EvG Rr K κ W Wo σ H r Q) (i : ∀ b H', Q b H' → Q' b H') : EvG Rr K κ W Wo σ H r Q' := by
  cases r with
  | ok a ρ => exact fun b H2 f2 rel rr => i _ _ (h b H2 f2 rel rr)
  | er e ρ => exact h
  | st => exact h
/-- one after the other -/
theorem EvG.bind {α β α' β' : Type} {Rr : Hp → Hp → α → β → Prop} {Rr' : Hp → Hp → α' → β' → Prop} {r : R α} {k : α → M α'} {Q : β' → Hp → Prop} (h : EvG Rr' K κ W Wo σ H (r.bind k) Q) :
    EvG Rr K κ W Wo σ H r (fun b H1 => ∃ a ρ1, Fr Wo H H1 ∧ Rel K κ ρ1 Wo σ H1 ∧ Rr (vw κ Wo H1) H1 a b ∧ EvG Rr' K κ W Wo σ H1 (k a ρ1) Q) := by
  cases r with
  | ok a ρ => exact fun b H1 f rel rr => ⟨a, ρ, f, rel, rr, EvG.fr f h⟩
  | er e ρ => exact h
  | st => exact h.elim
/-- an expression that does f -/
def teOf (K : Fg) (κ : Kp) (W : WX) (f : M D) : TE := fun σ H Q => ∃ ρ Wo, Rel K κ ρ Wo σ H ∧ EvG (fun S _ => Rp K S) K κ W Wo σ H (f ρ) Q
/-- an expression that hands out something to be read at once (perhaps owned, or borrowed) -/
def trOf (K : Fg) (κ : Kp) (W : WX) (f : M D) : TE := fun σ H Q => ∃ ρ Wo, Rel K κ ρ Wo σ H ∧ EvG (fun _ H => Rp K H) K κ W Wo σ H (f ρ) Q
/-- a test that does f -/
def ttOf (K : Fg) (κ : Kp) (W : WX) (f : M Bool) : TT := fun σ H Q => ∃ ρ Wo, Rel K κ ρ Wo σ H ∧ EvG (fun _ _ a b => a = b) K κ W Wo σ H (f ρ) Q
/-- a new thing -/
def EvF (K : Fg) (κ : Kp) (W : WX) (Wo : Addr → Prop) (σ : L2.St) (H : Hp) (r : R D) (Q : VK) : Prop := match r with
  | .ok d ρ' => ∀ p o H1 H', Fr Wo H H1 → Rel K κ ρ' Wo σ H1 → H1 p = none → Same H1 H' → H' p = some o → Cn K (vw κ (wPlus Wo p) H') d o → Q (.ref p) H'
  | .er e ρ' => ∀ cls dd H', Fr Wo H H' → Rel K κ ρ' Wo σ H' → Xp K (vw κ Wo H') H' e cls dd → W cls dd σ H'
  | .st => False
theorem EvF.fr {r : R D} {Q : VK} (f : Fr Wo H H') (h : EvF K κ W Wo σ H r Q) : EvF K κ W Wo σ H' r Q := by
  cases r with
  | ok a ρ => exact fun p o H1 H2 f2 => h p o H1 H2 (f.trans f2)
  | er e ρ => exact fun c d H2 f2 rel x => h c d H2 (f.trans f2) rel x
  | st => exact h
theorem EvG.bindF {α β : Type} {Rr : Hp → Hp → α → β → Prop} {r : R α} {k : α → M D} {Q : VK} (h : EvF K κ W Wo σ H (r.bind k) Q) :
    EvG Rr K κ W Wo σ H r (fun b H1 => ∃ a ρ1, Fr Wo H H1 ∧ Rel K κ ρ1 Wo σ H1 ∧ Rr (vw κ Wo H1) H1 a b ∧ EvF K κ W Wo σ H1 (k a ρ1) Q) := by
  cases r with
  | ok a ρ => exact fun b H1 f rel rr => ⟨a, ρ, f, rel, rr, EvF.fr f h⟩
  | er e ρ => exact h
  | st => exact h.elim
/-- an expression that makes a new thing: its content d -/
def tfOf (K : Fg) (κ : Kp) (W : WX) (f : M D) : TE := fun σ H Q => ∃ ρ Wo, Rel K κ ρ Wo σ H ∧ EvF K κ W Wo σ H (f ρ) Q
/-- an argument: a value, or an owned (or borrowed) slot itself -/
inductive ArgR where
  | v (d : D)
  | s (i : Nat)
def ArgOk (K : Fg) (σ : L2.St) (S : Hp) : ArgR → V → Prop
  | .v d, x => Rp K S d x
  | .s i, x => σ[i]? = some (some x)
def ArgsOk (K : Fg) (σ : L2.St) (S : Hp) : List ArgR → List V → Prop
  | [], vs => vs = []
  | a :: as, vs => ∃ v r, vs = v :: r ∧ ArgOk K σ S a v ∧ ArgsOk K σ S as r
def taOf (K : Fg) (κ : Kp) (W : WX) (f : M (List ArgR)) : TA := fun σ H Q => ∃ ρ Wo, Rel K κ ρ Wo σ H ∧ EvG (fun S _ as vs => ArgsOk K σ S as vs) K κ W Wo σ H (f ρ) Q
theorem ArgOk.mono {S S' : Hp} (o : Ord S S') {a : ArgR} {v : V} (h : ArgOk K σ S a v) : ArgOk K σ S' a v := by
  cases a with
  | v d => exact Rp.mono o h
  | s i => exact h
theorem ArgsOk.mono {S S' : Hp} (o : Ord S S') : ∀ {as : List ArgR} {vs : List V}, ArgsOk K σ S as vs → ArgsOk K σ S' as vs
  | [], _, h => h
  | _ :: _, _, h => by
    obtain ⟨v, r, e, q, z⟩ := h
    exact ⟨v, r, e, q.mono o, ArgsOk.mono o z⟩
/-! ### statements -/
inductive Fl where
  | nx
  | rt (d : D)
  /-- a new thing is handed back -/
  | rf (d : D)
  /-- a value whose parts that can change are all new -/
  | rn (d : D)
  | bk
  | ct

structure Post (Wo : Addr → Prop) (H : Hp) (Wo' : Addr → Prop) (H' : Hp) : Prop where
  fr : Fr Wo H H'
  wo : ∀ l, Wo' l → Wo l ∨ H l = none
theorem Post.refl {Wo : Addr → Prop} {H : Hp} : Post Wo H Wo H := ⟨.refl H, fun _ z => .inl z⟩
theorem Post.trans {Wo W1 W2 : Addr → Prop} {H H1 H2 : Hp} (a : Post Wo H W1 H1) (b : Post W1 H1 W2 H2) : Post Wo H W2 H2 :=
  ⟨fun x o n e => b.fr x o (fun z => by
      rcases a.wo x z with z | z
      · exact n z
      · rw [z] at e; cases e) (a.fr x o n e), fun l z => by
    rcases b.wo l z with z | z
    · exact a.wo l z
    · by_cases n : Wo l
      · exact .inl n
      · cases e : H l with
        | none => exact .inr rfl
        | some o => rw [a.fr l o n e] at z; cases z⟩
theorem Post.of {Wo : Addr → Prop} {H H' : Hp} (f : Fr Wo H H') : Post Wo H Wo H' := ⟨f, fun _ z => .inl z⟩
def EvS (K : Fg) (κ : Kp) (W : WX) (Wo : Addr → Prop) (H : Hp) (r : R Fl) (D : Ends) : Prop := match r with
  | .ok fl ρ => ∀ σ' H' Wo', Post Wo H Wo' H' → Rel K κ ρ Wo' σ' H' → match fl with
    | .nx => D.nx σ' H'
    | .bk => D.bk σ' H'
    | .ct => D.ct σ' H'
    | .rt d => ∀ v, Rp K (vw κ Wo' H') d v → D.rt v H'
    | .rf d => ∀ p o, Wo' p → H' p = some o → Cn K (vw κ Wo' H') d o → D.rt (.ref p) H'
    | .rn d => ∀ v F, F.Nodup → (∀ a ∈ F, Wo' a) → Rq K (vw κ Wo' H') H' d v F → D.rt v H'
  | .er e ρ => ∀ cls dd σ' H' Wo', Post Wo H Wo' H' → Rel K κ ρ Wo' σ' H' → Xp K (vw κ Wo' H') H' e cls dd → W cls dd σ' H'
  | .st => False
def tsOf (K : Fg) (κ : Kp) (W : WX) (g : M Fl) : TS := fun D σ H => ∃ ρ Wo, Rel K κ ρ Wo σ H ∧ EvS K κ W Wo H (g ρ) D
theorem EvS.post {Wo' : Addr → Prop} {r : R Fl} {D : Ends} (p : Post Wo H Wo' H') (h : EvS K κ W Wo H r D) : EvS K κ W Wo' H' r D := by
  cases r with
  | ok fl ρ =>
    intro σ2 H2 Wo2 p2 rel
    have q := h σ2 H2 Wo2 (p.trans p2) rel
    cases fl <;> exact q
  | er e ρ => exact fun c d σ2 H2 Wo2 p2 rel x => h c d σ2 H2 Wo2 (p.trans p2) rel x
  | st => exact h
end
end Qy

set_option Elab.async false
set_option linter.all false
set_option maxRecDepth 100000
/-! Q3: expressions. -/
namespace Qy
open PySem PySem.Spec L2
theorem PE.imp {X : Cx} {e : Expr} {t t' : TE} (h : PE X e t) (i : ∀ σ H Q, t' σ H Q → t σ H Q) : PE X e t' := ⟨fun p s σ H Q I q => h.run p s σ H Q I (i _ _ _ q)⟩
theorem PT.imp {X : Cx} {e : Expr} {t t' : TT} (h : PT X e t) (i : ∀ σ H Q, t' σ H Q → t σ H Q) : PT X e t' := ⟨fun p s σ H Q I q => h.run p s σ H Q I (i _ _ _ q)⟩
theorem PW.imp {X : Cx} {e : Expr} {t t' : TT} (h : PW X e t) (i : ∀ σ H Q, t' σ H Q → t σ H Q) : PW X e t' := ⟨fun wh p s σ H Q I q => h.run wh p s σ H Q I (i _ _ _ q)⟩
theorem PA.imp {X : Cx} {e : List Expr} {t t' : TA} (h : PA X e t) (i : ∀ σ H Q, t' σ H Q → t σ H Q) : PA X e t' := ⟨fun ps p s σ H Q I q => h.run ps p s σ H Q I (i _ _ _ q)⟩
theorem PS.imp {X : Cx} {e : Stmt} {t t' : TS} (h : PS X e t) (i : ∀ D σ H, t' D σ H → t D σ H) : PS X e t' := ⟨fun p s σ H D I q => h.run p s σ H D I (i _ _ _ q)⟩
theorem PSs.imp {X : Cx} {e : List Stmt} {t t' : TS} (h : PSs X e t) (i : ∀ D σ H, t' D σ H → t D σ H) : PSs X e t' := ⟨fun p s σ H D I q => h.run p s σ H D I (i _ _ _ q)⟩
abbrev QE (X : Cx) (κ : Kp) (W : WX) (e : Expr) (f : M D) : Prop := PE X e (teOf X.K κ W f)
abbrev QF (X : Cx) (κ : Kp) (W : WX) (e : Expr) (f : M D) : Prop := PE X e (tfOf X.K κ W f)
abbrev QR (X : Cx) (κ : Kp) (W : WX) (e : Expr) (f : M D) : Prop := PE X e (trOf X.K κ W f)
abbrev QT (X : Cx) (κ : Kp) (W : WX) (e : Expr) (f : M Bool) : Prop := PT X e (ttOf X.K κ W f)
abbrev QW (X : Cx) (κ : Kp) (W : WX) (e : Expr) (f : M Bool) : Prop := PW X e (ttOf X.K κ W f)
abbrev QA (X : Cx) (κ : Kp) (W : WX) (es : List Expr) (f : M (List ArgR)) : Prop := PA X es (taOf X.K κ W f)
abbrev QS (X : Cx) (κ : Kp) (W : WX) (st : Stmt) (g : M Fl) : Prop := PS X st (tsOf X.K κ W g)
abbrev QSs (X : Cx) (κ : Kp) (W : WX) (st : List Stmt) (g : M Fl) : Prop := PSs X st (tsOf X.K κ W g)
/-! ### flat facts -/
section
variable {K : Fg} {S : Hp}
theorem rp_non : Rp K S .non .non := by simp only [Rp]
theorem rp_bl (b : Bool) : Rp K S (.bl b) (.bl b) := by simp only [Rp]
theorem rp_int (i : Int) : Rp K S (.int i) (.int i) := by simp only [Rp]
theorem rp_str (s : Str) : Rp K S (.str s) (.str s) := by simp only [Rp]
theorem rps_nil : Rps K S [] [] := by simp only [Rps]
theorem rps_cons {d : D} {ds : List D} {v : V} {vs : List V} (h : Rp K S d v) (t : Rps K S ds vs) : Rps K S (d :: ds) (v :: vs) := by
  simp only [Rps]
  exact ⟨v, vs, rfl, h, t⟩
theorem Rps.length : ∀ {ds : List D} {vs : List V}, Rps K S ds vs → ds.length = vs.length
  | [], vs, h => by simp only [Rps] at h; rw [h]; rfl
  | d :: ds, vs, h => by
    simp only [Rps] at h
    obtain ⟨v, r, e, _, z⟩ := h
    rw [e, List.length_cons, List.length_cons, Rps.length z]
theorem Rps.get : ∀ {ds : List D} {vs : List V} {i : Nat} {d : D}, Rps K S ds vs → ds[i]? = some d → ∃ v, vs[i]? = some v ∧ Rp K S d v
  | [], _, i, d, _, e => by simp at e
  | x :: ds, vs, i, d, h, e => by
    simp only [Rps] at h
    obtain ⟨v, r, rfl, q, z⟩ := h
    cases i with
    | zero => simp at e; subst e; exact ⟨v, rfl, q⟩
    | succ i => simpa using Rps.get z (by simpa using e)
theorem Rps.got : ∀ {ds : List D} {vs : List V} {i : Nat} {v : V}, Rps K S ds vs → vs[i]? = some v → ∃ d, ds[i]? = some d ∧ Rp K S d v
  | [], vs, i, v, h, e => by simp only [Rps] at h; subst h; simp at e
  | x :: ds, vs, i, v, h, e => by
    simp only [Rps] at h
    obtain ⟨w, r, rfl, q, z⟩ := h
    cases i with
    | zero => simp at e; subst e; exact ⟨x, rfl, q⟩
    | succ i => simpa using Rps.got z (by simpa using e)
theorem Rps.append : ∀ {ds es : List D} {vs ws : List V}, Rps K S ds vs → Rps K S es ws → Rps K S (ds ++ es) (vs ++ ws)
  | [], _, vs, _, h, t => by simp only [Rps] at h; subst h; exact t
  | x :: ds, _, vs, _, h, t => by
    simp only [Rps] at h
    obtain ⟨w, r, rfl, q, z⟩ := h
    exact rps_cons q (Rps.append z t)
theorem Rps.take : ∀ {ds : List D} {vs : List V} (n : Nat), Rps K S ds vs → Rps K S (ds.take n) (vs.take n)
  | [], vs, n, h => by simp only [Rps] at h; subst h; simp [rps_nil]
  | x :: ds, vs, n, h => by
    simp only [Rps] at h
    obtain ⟨w, r, rfl, q, z⟩ := h
    cases n with
    | zero => exact rps_nil
    | succ n => exact rps_cons q (Rps.take n z)
theorem Rps.drop : ∀ {ds : List D} {vs : List V} (n : Nat), Rps K S ds vs → Rps K S (ds.drop n) (vs.drop n)
  | [], vs, n, h => by simp only [Rps] at h; subst h; simp [rps_nil]
  | x :: ds, vs, n, h => by
    cases n with
    | zero => exact h
    | succ n =>
      simp only [Rps] at h
      obtain ⟨w, r, rfl, q, z⟩ := h
      exact Rps.drop n z
theorem Rps.set {d : D} {v : V} (q : Rp K S d v) : ∀ {ds : List D} {vs : List V} (i : Nat), Rps K S ds vs → Rps K S (ds.set i d) (vs.set i v)
  | [], vs, i, h => by simp only [Rps] at h; subst h; simp [rps_nil]
  | x :: ds, vs, i, h => by
    simp only [Rps] at h
    obtain ⟨w, r, rfl, q', z⟩ := h
    cases i with
    | zero => exact rps_cons q z
    | succ i => exact rps_cons q' (Rps.set q i z)
end
/-! ### immutable data -/
mutual
def imm : D → Bool
  | .non => true
  | .bl _ => true
  | .int _ => true
  | .str _ => true
  | .tup ds => imms ds
  | _ => false
def imms : List D → Bool
  | [] => true
  | d :: ds => imm d && imms ds
end
mutual
theorem Rp.imm {K : Fg} {S S' : Hp} (t : ∀ a xs, S a = some (.tup xs) → S' a = some (.tup xs)) : ∀ {d : D} {v : V}, imm d = true → Rp K S d v → Rp K S' d v
  | .non, v, _, h => by simpa only [Rp] using h
  | .bl b, v, _, h => by simpa only [Rp] using h
  | .int i, v, _, h => by simpa only [Rp] using h
  | .str s, v, _, h => by simpa only [Rp] using h
  | .tup ds, v, i, h => by
    simp only [Rp] at h ⊢
    obtain ⟨a, vs, e, q, r⟩ := h
    exact ⟨a, vs, e, t _ _ q, Rps.imm t (by simpa only [Qy.imm] using i) r⟩
  | .lst ds, v, i, h => by simp only [Qy.imm] at i; cases i
  | .dk ks ds, v, i, h => by simp only [Qy.imm] at i; cases i
  | .dt ks ds, v, i, h => by simp only [Qy.imm] at i; cases i
  | .obj c ns ds, v, i, h => by simp only [Qy.imm] at i; cases i
  | .scr ns, v, i, h => by simp only [Qy.imm] at i; cases i
theorem Rps.imm {K : Fg} {S S' : Hp} (t : ∀ a xs, S a = some (.tup xs) → S' a = some (.tup xs)) : ∀ {ds : List D} {vs : List V}, imms ds = true → Rps K S ds vs → Rps K S' ds vs
  | [], vs, _, h => by simpa only [Rps] using h
  | d :: ds, vs, i, h => by
    simp only [Rps] at h ⊢
    simp only [Qy.imms, Bool.and_eq_true] at i
    obtain ⟨v, r, e, q, z⟩ := h
    exact ⟨v, r, e, Rp.imm t i.1 q, Rps.imm t i.2 z⟩
end
section
variable {K : Fg} {κ : Kp} {ρ : Rho} {Wo : Addr → Prop} {σ : L2.St} {H H' : Hp}
theorem Rel.tup (r : Rel K κ ρ Wo σ H) : ∀ a xs, H a = some (.tup xs) → vw κ Wo H a = some (.tup xs) := fun a xs e => by
  by_cases w : Wo a ∨ κ.Xh a
  · exact absurd e (r.tu a xs w)
  · exact (hide_out w).trans e
theorem Rel.seen (r : Rel K κ ρ Wo σ H) {d : D} {v : V} (i : imm d = true) (h : Rp K H d v) : Rp K (vw κ Wo H) d v := Rp.imm r.tup i h
theorem Rel.seens (r : Rel K κ ρ Wo σ H) {ds : List D} {vs : List V} (i : imms ds = true) (h : Rps K H ds vs) : Rps K (vw κ Wo H) ds vs := Rps.imm r.tup i h
end
section
variable {X : Cx} {κ : Kp} {W : WX} {pos : Pos}
/-! ### from one kind to another -/
/-- what is shared may be read -/
theorem qr_e {e : Expr} {f : M D} (h : QE X κ W e f) : QR X κ W e f := PE.imp h fun σ H Q ⟨ρ, Wo, rel, q⟩ => by
  refine ⟨ρ, Wo, rel, ?_⟩
  cases hf : f ρ with
  | ok d ρ' => rw [hf] at q; exact fun v H' fr rel' rp => q v H' fr rel' (rp.mono hide_le)
  | er e ρ' => rw [hf] at q; exact q
  | st => rw [hf] at q; exact q
/-- a new thing is given away at once -/
theorem qe_f {e : Expr} {f : M D} (h : QF X κ W e f) : QE X κ W e f := PE.imp h fun σ H Q ⟨ρ, Wo, rel, q⟩ => by
  refine ⟨ρ, Wo, rel, ?_⟩
  cases hf : f ρ with
  | ok d ρ' =>
    rw [hf] at q
    refine fun p o H1 H' fr rel' hp s e c => q (.ref p) H' (fr.trans (Fr.same s)) (rel'.same s) ?_
    refine (c.mono (hide_ord (fun a n _ z => n (z.imp .inl id)) fun _ _ _ e => e)).rp ?_
    exact (hide_out (rel'.free hp)).trans e
  | er e ρ' => rw [hf] at q; exact q
  | st => rw [hf] at q; exact q
/-! ### names, constants -/
def gVar (i : Nat) : M D := fun ρ => match ρ[i]? with
  | some (.sh d) => .ok d ρ
  | _ => .st
/-- a slot, to be read at once -/
def gRef (i : Nat) : M D := fun ρ => match ρ[i]? with
  | some (.sh d) => .ok d ρ
  | some (.ow _ d) => .ok d ρ
  | some (.bw d) => .ok d ρ
  | some (.dp _ d) => .ok (strip d) ρ
  | _ => .st
theorem qe_var (i : Nat) {x : Str} (hN : X.N[i]? = some x := by rfl) (hv : Vis X.env.scope x := by first | exact Or.inl rfl | exact Or.inr (Or.inl rfl) | exact Or.inr (Or.inr rfl)) (hd : (x == ("__debug__" : Str)) = false := by decide)
    (hcd : (x == ("__classdict__" : Str)) = false := by decide) : QE X κ W (.Name x pos) (gVar i) := PE.imp (pe_var hN hv hd hcd) fun σ H Q ⟨ρ, Wo, rel, q⟩ => by
  unfold gVar at q
  cases hr : ρ[i]? with
  | none => rw [hr] at q; exact q.elim
  | some s =>
    rw [hr] at q
    cases s with
    | sh d =>
      obtain ⟨v, e, rp⟩ := rel.sh i d hr
      exact ⟨v, e, q v H (.refl H) rel rp⟩
    | _ => exact q.elim
theorem qr_var (i : Nat) {x : Str} (hN : X.N[i]? = some x := by rfl) (hv : Vis X.env.scope x := by first | exact Or.inl rfl | exact Or.inr (Or.inl rfl) | exact Or.inr (Or.inr rfl)) (hd : (x == ("__debug__" : Str)) = false := by decide)
    (hcd : (x == ("__classdict__" : Str)) = false := by decide) : QR X κ W (.Name x pos) (gRef i) := PE.imp (pe_var hN hv hd hcd) fun σ H Q ⟨ρ, Wo, rel, q⟩ => by
  unfold gRef at q
  cases hr : ρ[i]? with
  | none => rw [hr] at q; exact q.elim
  | some s =>
    rw [hr] at q
    cases s with
    | no => exact q.elim
    | sh d =>
      obtain ⟨v, e, rp⟩ := rel.sh i d hr
      exact ⟨v, e, q v H (.refl H) rel (rp.mono hide_le)⟩
    | ow t d =>
      obtain ⟨l, o, e, w, h, c, _⟩ := rel.ow i t d hr
      exact ⟨_, e, q _ H (.refl H) rel ((c.mono hide_le).rp h)⟩
    | bw d =>
      obtain ⟨v, e, rp⟩ := rel.bw i d hr
      exact ⟨v, e, q v H (.refl H) rel (rp.mono rel.bo)⟩
    | xc _ => exact q.elim
    | dp t d =>
      obtain ⟨Fp, h⟩ := rel.dp
      obtain ⟨v, e, rq, _⟩ := h.at_ i t d hr
      exact ⟨v, e, q v H (.refl H) rel (rq.rp hide_le)⟩
theorem tc_of {v : V} {d : D} (r : ∀ S : Hp, Rp X.K S d v) : ∀ (σ : L2.St) H Q, teOf X.K κ W (ret d) σ H Q → tC v σ H Q := fun σ H Q ⟨ρ, Wo, rel, q⟩ => q v H (.refl H) rel (r _)
theorem qe_int {i : Int} {j} : QE X κ W (.Constant (.int i) j pos) (ret (.int i)) := PE.imp pe_int (tc_of fun _ => rp_int i)
theorem qe_bl {b : Bool} {j} : QE X κ W (.Constant (.bool b) j pos) (ret (.bl b)) := PE.imp pe_bl (tc_of fun _ => rp_bl b)
theorem qe_non {j} : QE X κ W (.Constant .none j pos) (ret .non) := PE.imp pe_non (tc_of fun _ => rp_non)
theorem qe_str {x : Str} {j} : QE X κ W (.Constant (.str x) j pos) (ret (.str x)) := PE.imp pe_str (tc_of fun _ => rp_str x)
theorem qe_gint {x : Str} {i : Int} (h : ∃ t, X.mg x = some (.int i t)) (hg : Gl X x := by rfl) (hd : (x == ("__debug__" : Str)) = false := by decide) : QE X κ W (.Name x pos) (ret (.int i)) := by
  obtain ⟨t, h⟩ := h
  exact PE.imp (pe_glob (v := .int i) hg h ⟨t, rfl⟩ hd) (tc_of fun _ => rp_int i)
theorem qe_gstr {x : Str} {s : Str} (h : ∃ t, X.mg x = some (.str s t)) (hg : Gl X x := by rfl) (hd : (x == ("__debug__" : Str)) = false := by decide) : QE X κ W (.Name x pos) (ret (.str s)) := by
  obtain ⟨t, h⟩ := h
  exact PE.imp (pe_glob (v := .str s) hg h ⟨t, rfl⟩ hd) (tc_of fun _ => rp_str s)
/-! ### arguments -/
def gNil : M (List ArgR) := ret []
def gArg (f : M D) (r : M (List ArgR)) : M (List ArgR) := bnd f fun d => bnd r fun ds => ret (.v d :: ds)
end
end Qy

set_option Elab.async false
set_option linter.all false
set_option maxRecDepth 100000
/-! Q4: arguments, displays, operators, comparisons, tests. -/
namespace Qy
open PySem PySem.Spec L2
section
variable {X : Cx} {κ : Kp} {W : WX} {pos : Pos} {a b e : Expr} {es : List Expr}
theorem te_ok {K : Fg} {ρ : Rho} {Wo : Addr → Prop} {σ : L2.St} {H : Hp} {d : D} {Q : VK} {v : V} (rel : Rel K κ ρ Wo σ H) (h : EvG (fun S _ => Rp K S) K κ W Wo σ H (.ok d ρ) Q) (rp : Rp K (vw κ Wo H) d v) : Q v H := h v H (.refl H) rel rp
theorem te_new {K : Fg} {ρ : Rho} {Wo : Addr → Prop} {σ : L2.St} {H : Hp} {d : D} {Q : VK} {v : V} {p : Addr} {o : HO} (rel : Rel K κ ρ Wo σ H) (h : EvG (fun S _ => Rp K S) K κ W Wo σ H (.ok d ρ) Q) (hp : H p = none)
    (rp : vw κ Wo (upd H p o) p = some o → Ord (vw κ Wo H) (vw κ Wo (upd H p o)) → Rp K (vw κ Wo (upd H p o)) d v) : Q v (upd H p o) :=
  h v _ (.same (Same.new hp)) (rel.same (Same.new hp)) (rp (rel.new_at hp upd_same) (Ord.vws (Same.new hp)))
/-! ### arguments -/
theorem qa_nil : QA X κ W [] gNil := PA.imp pa_nil fun σ H Q ⟨ρ, Wo, rel, q⟩ => q [] H (.refl H) rel rfl
theorem qa_e {f : M D} {r : M (List ArgR)} (ha : QE X κ W e f) (hr : QA X κ W es r) (hs : starEach (e :: es) X.env = (false, eval e X.env) :: starEach es X.env := by rfl) : QA X κ W (e :: es) (gArg f r) :=
  PA.imp (pa_cons ha hr hs) fun σ H Q ⟨ρ, Wo, rel, q⟩ => ⟨ρ, Wo, rel, (EvG.bind q).imp fun v H1 ⟨d, ρ1, fr1, rel1, rp, q1⟩ => ⟨ρ1, Wo, rel1, (EvG.bind q1).imp fun vs H2 ⟨ds, ρ2, fr2, rel2, rps, q2⟩ =>
    q2 _ H2 (.refl H2) rel2 ⟨v, vs, rfl, rp.mono (Ord.fr fr2), rps⟩⟩⟩
/-- arguments that are all values -/
def vals : List ArgR → Option (List D)
  | [] => some []
  | .v d :: r => (vals r).map fun ds => d :: ds
  | .s _ :: _ => none
theorem ArgsOk.vals {K : Fg} {σ : L2.St} {S : Hp} : ∀ {as : List ArgR} {vs : List V} {ds : List D}, ArgsOk K σ S as vs → vals as = some ds → Rps K S ds vs
  | [], vs, ds, h, e => by
    have e' : some [] = some ds := e
    cases e'
    rw [show vs = [] from h]
    exact rps_nil
  | .s i :: _, _, _, _, e => by cases e
  | .v d :: r, vs, ds, h, e => by
    obtain ⟨v, w, rfl, q, z⟩ := h
    have e' : (Qy.vals r).map (fun ds => d :: ds) = some ds := e
    cases hr : Qy.vals r with
    | none => rw [hr] at e'; cases e'
    | some es =>
      rw [hr] at e'
      cases e'
      exact rps_cons q (ArgsOk.vals z hr)
/-! ### displays -/
def gTup (f : M (List ArgR)) : M D := bnd f fun as => ofO ((vals as).bind fun ds => if ds.length ≤ 16777216 then some (.tup ds) else none)
def gLst (f : M (List ArgR)) : M D := bnd f fun as => ofO ((vals as).bind fun ds => if ds.length ≤ 16777216 then some (.lst ds) else none)
theorem ofO_some {α : Type} {o : Option α} {a : α} {ρ : Rho} (h : o = some a) : ofO o ρ = .ok a ρ := by rw [h]; rfl
theorem ofO_none {α : Type} {o : Option α} {ρ : Rho} (h : o = none) : ofO o ρ = .st := by rw [h]; rfl
theorem qe_tup {f : M (List ArgR)} {c} (h : QA X κ W es f) : QE X κ W (.Tuple es c pos) (gTup f) :=
  PE.imp (pe_tup h) fun σ H Q ⟨ρ, Wo, rel, q⟩ => ⟨ρ, Wo, rel, (EvG.bind q).imp fun vs H1 ⟨as, ρ1, fr1, rel1, ao, q1⟩ => by
    cases hv : vals as with
    | none => rw [ofO_none (by rw [hv]; rfl)] at q1; exact q1.elim
    | some ds =>
      have rps := ao.vals hv
      by_cases hl : ds.length ≤ 16777216
      · rw [ofO_some (a := .tup ds) (by rw [hv]; exact if_pos hl)] at q1
        refine ⟨by rw [← rps.length]; exact hl, fun p hp => te_new rel1 q1 hp fun e o => ?_⟩
        simp only [Rp]
        exact ⟨p, vs, rfl, e, rps.mono o⟩
      · rw [ofO_none (by rw [hv]; exact if_neg hl)] at q1; exact q1.elim⟩
/-- a new thing -/
theorem tf_new {K : Fg} {ρ : Rho} {Wo : Addr → Prop} {σ : L2.St} {H : Hp} {d : D} {Q : VK} {p : Addr} {o : HO} (rel : Rel K κ ρ Wo σ H) (q : EvF K κ W Wo σ H (.ok d ρ) Q) (hp : H p = none)
    (c : Ord (vw κ Wo H) (vw κ (wPlus Wo p) (upd H p o)) → Cn K (vw κ (wPlus Wo p) (upd H p o)) d o) : Q (.ref p) (upd H p o) :=
  q p o H _ (.refl H) rel hp (Same.new hp) upd_same (c (vw_plus rel hp (Same.new hp)))
theorem qf_lst {f : M (List ArgR)} (h : QA X κ W es f) : QF X κ W (.List es pos) (gLst f) :=
  PE.imp (pe_lst h) fun σ H Q ⟨ρ, Wo, rel, q⟩ => ⟨ρ, Wo, rel, (EvG.bindF q).imp fun vs H1 ⟨as, ρ1, fr1, rel1, ao, q1⟩ => by
    cases hv : vals as with
    | none => rw [ofO_none (by rw [hv]; rfl)] at q1; exact q1.elim
    | some ds =>
      have rps := ao.vals hv
      by_cases hl : ds.length ≤ 16777216
      · rw [ofO_some (a := .lst ds) (by rw [hv]; exact if_pos hl)] at q1
        exact ⟨by rw [← rps.length]; exact hl, fun p hp => tf_new rel1 q1 hp fun o => rps.mono o⟩
      · rw [ofO_none (by rw [hv]; exact if_neg hl)] at q1; exact q1.elim⟩
/-- {}: its keys will be ints and texts, or tuples -/
theorem qf_dk : QF X κ W (.Dict [] [] pos) (ret (.dk [] [])) := PE.imp pe_dnewK fun σ H Q ⟨ρ, Wo, rel, q⟩ p hp => tf_new rel q hp fun o => ⟨rfl, rps_nil⟩
theorem qf_dt : QF X κ W (.Dict [] [] pos) (ret (.dt [] [])) := PE.imp pe_dnewT fun σ H Q ⟨ρ, Wo, rel, q⟩ p hp => tf_new rel q hp fun o => ⟨rfl, rps_nil⟩
/-! ### operators -/
theorem bindR {K : Fg} {f : M D} {k : D → M D} {ρ : Rho} {Wo : Addr → Prop} {σ : L2.St} {H : Hp} {Q : VK} (rel : Rel K κ ρ Wo σ H) (h : EvG (fun S _ => Rp K S) K κ W Wo σ H (bnd f k ρ) Q) {R : VK}
    (i : ∀ v H1 d ρ1, Fr Wo H H1 → Rel K κ ρ1 Wo σ H1 → Rp K (vw κ Wo H1) d v → EvG (fun S _ => Rp K S) K κ W Wo σ H1 (k d ρ1) Q → R v H1) : teOf K κ W f σ H R :=
  ⟨ρ, Wo, rel, (EvG.bind h).imp fun v H1 ⟨d, ρ1, fr1, rel1, rp, q⟩ => i v H1 d ρ1 fr1 rel1 rp q⟩
def gBin (g : D → D → Option D) (f1 f2 : M D) : M D := bnd f1 fun x => bnd f2 fun y => ofO (g x y)
/-- what an operation on shared values asks -/
def OpG (X : Cx) (κ : Kp) (W : WX) (r : R2) (g : D → D → Option D) : Prop := ∀ (ρ : Rho) (Wo : Addr → Prop) (σ : L2.St) (H : Hp) (x y d : D) (v u : V) (Q : VK), Rel X.K κ ρ Wo σ H → Rp X.K (vw κ Wo H) x v → Rp X.K (vw κ Wo H) y u →
  g x y = some d → EvG (fun S _ => Rp X.K S) X.K κ W Wo σ H (.ok d ρ) Q → r v u H Q
theorem qe_bin {op : Operator} {r : R2} {g : D → D → Option D} {f1 f2 : M D} (ho : OpR X (binaryOp op) r) (hg : OpG X κ W r g) (ha : QE X κ W a f1) (hb : QE X κ W b f2) : QE X κ W (.BinOp a op b pos) (gBin g f1 f2) :=
  PE.imp (pe_op ho ha hb) fun σ H Q ⟨ρ, Wo, rel, q⟩ => bindR rel q fun v H1 x ρ1 fr1 rel1 rx q1 => bindR rel1 q1 fun u H2 y ρ2 fr2 rel2 ry q2 => by
    cases e : g x y with
    | none => rw [ofO_none e] at q2; exact q2.elim
    | some d =>
      rw [ofO_some e] at q2
      exact hg ρ2 Wo σ H2 x y d v u Q rel2 (rx.mono (Ord.fr fr2)) ry e q2
def addD : D → D → Option D
  | .int i, .int j => some (.int (i + j))
  | .str s, .str t => if s.length + t.length ≤ 16777216 then some (.str (s ++ t)) else none
  | .tup xs, .tup ys => if xs.length + ys.length ≤ 16777216 then some (.tup (xs ++ ys)) else none
  | _, _ => none
def rAddQ (K : Fg) : R2 := fun x y H Q => rI0 (fun i j => .int (i + j)) x y H Q ∨ (∃ i j, x = .str i ∧ y = .str j ∧ i.length + j.length ≤ sizeLine ∧ Q (.str (i ++ j)) H) ∨ rCatA K x y H Q
theorem op_addQ : OpR X (binaryOp .Add) (rAddQ X.K) := op_add.or (op_add_str.or op_catA)
theorem opg_add : OpG X κ W (rAddQ X.K) addD := by
  intro ρ Wo σ H x y d v u Q rel rx ry e h
  cases x <;> cases y <;> first
    | (cases e; done)
    | skip
  · simp only [Rp] at rx ry
    cases e
    exact .inl ⟨_, _, rx, ry, te_ok rel h (rp_int _)⟩
  · rename_i s t
    simp only [Rp] at rx ry
    by_cases hl : s.length + t.length ≤ 16777216
    · have e' : some (D.str (s ++ t)) = some d := by rw [← e]; exact (if_pos hl).symm
      cases e'
      exact .inr (.inl ⟨_, _, rx, ry, hl, te_ok rel h (rp_str _)⟩)
    · rw [show addD (.str s) (.str t) = none from if_neg hl] at e; cases e
  · rename_i xs ys
    simp only [Rp] at rx ry
    obtain ⟨p, vs, rfl, hp, rs⟩ := rx
    obtain ⟨q, ws, rfl, hq, rt⟩ := ry
    by_cases hl : xs.length + ys.length ≤ 16777216
    · have e' : some (D.tup (xs ++ ys)) = some d := by rw [← e]; exact (if_pos hl).symm
      cases e'
      have l1 := rs.length
      have l2 := rt.length
      refine .inr (.inr ⟨p, q, vs, ws, rfl, rfl, .inl (.inl (hide_some hp).2), .inl (.inl (hide_some hq).2), by rw [← l1, ← l2]; exact hl, fun z => ?_, fun z1 z2 => ?_, fun z1 z2 n hn => ?_⟩)
      · subst z
        have : xs = [] := List.eq_nil_of_length_eq_zero l1
        subst this
        refine te_ok rel h ?_
        simp only [Rp]
        exact ⟨q, ws, rfl, hq, rt⟩
      · subst z2
        have : ys = [] := List.eq_nil_of_length_eq_zero l2
        subst this
        refine te_ok rel h ?_
        simp only [Rp, List.append_nil]
        exact ⟨p, vs, rfl, hp, rs⟩
      · refine te_new rel h hn fun e o => ?_
        simp only [Rp]
        exact ⟨n, vs ++ ws, rfl, e, (rs.append rt).mono o⟩
    · rw [show addD (.tup xs) (.tup ys) = none from if_neg hl] at e; cases e
theorem qe_add {f1 f2 : M D} (ha : QE X κ W a f1) (hb : QE X κ W b f2) : QE X κ W (.BinOp a .Add b pos) (gBin addD f1 f2) := qe_bin op_addQ opg_add ha hb
/-- two ints -/
def iiD (c : Int → Int → Bool) (g : Int → Int → Int) : D → D → Option D
  | .int i, .int j => if c i j = true then some (.int (g i j)) else none
  | _, _ => none
theorem opg_ii {C : Int → Int → Prop} {c : Int → Int → Bool} {g : Int → Int → Int} (hc : ∀ i j, c i j = true → C i j) : OpG X κ W (rI C fun i j => .int (g i j)) (iiD c g) := by
  intro ρ Wo σ H x y d v u Q rel rx ry e h
  cases x <;> cases y <;> first
    | (cases e; done)
    | skip
  rename_i i j
  simp only [Rp] at rx ry
  by_cases z : c i j = true
  · have e' : some (D.int (g i j)) = some d := by rw [← e]; exact (if_pos z).symm
    cases e'
    exact ⟨_, _, rx, ry, hc _ _ z, te_ok rel h (rp_int _)⟩
  · rw [show iiD c g (.int i) (.int j) = none from if_neg z] at e; cases e
def mulD := iiD (fun i j => decide ((-(2 ^ 64) < i ∧ i < 2 ^ 64) ∨ (-(2 ^ 64) < j ∧ j < 2 ^ 64))) fun i j => i * j
def divD := iiD (fun _ j => decide (0 < j ∧ j < 1073741824)) fun i j => i / j
def modD := iiD (fun _ j => decide (0 < j)) fun i j => i % j
def powD := iiD (fun i j => decide (0 ≤ j ∧ j ≤ 1000000 ∧ i.natAbs < 2 ^ 64)) fun i j => i ^ j.toNat
section
variable {f1 f2 : M D}
theorem qe_mul (ha : QE X κ W a f1) (hb : QE X κ W b f2) : QE X κ W (.BinOp a .Mult b pos) (gBin mulD f1 f2) := qe_bin op_mul (opg_ii fun i j h => ((of_decide_eq_true h : (-(2 ^ 64) < i ∧ i < 2 ^ 64) ∨ (-(2 ^ 64) < j ∧ j < 2 ^ 64)))) ha hb
theorem qe_div (ha : QE X κ W a f1) (hb : QE X κ W b f2) : QE X κ W (.BinOp a .FloorDiv b pos) (gBin divD f1 f2) := qe_bin op_fdiv (opg_ii fun i j h => ((of_decide_eq_true h : 0 < j ∧ j < 1073741824))) ha hb
theorem qe_mod (ha : QE X κ W a f1) (hb : QE X κ W b f2) : QE X κ W (.BinOp a .Mod b pos) (gBin modD f1 f2) := qe_bin op_mod (opg_ii fun _ _ h => of_decide_eq_true h) ha hb
theorem qe_pow (ha : QE X κ W a f1) (hb : QE X κ W b f2) : QE X κ W (.BinOp a .Pow b pos) (gBin powD f1 f2) := qe_bin op_pow (opg_ii fun i j h => ((of_decide_eq_true h : 0 ≤ j ∧ j ≤ 1000000 ∧ i.natAbs < 2 ^ 64))) ha hb
def negD : D → Option D
  | .int i => some (.int (-i))
  | _ => none
theorem qe_neg {f : M D} (ha : QE X κ W a f) : QE X κ W (.UnaryOp .USub a pos) (bnd f fun x => ofO (negD x)) :=
  PE.imp (pe_un un_neg ha) fun σ H Q ⟨ρ, Wo, rel, q⟩ => bindR rel q fun v H1 x ρ1 fr1 rel1 rx q1 => by
    cases x <;> first
      | exact q1.elim
      | skip
    simp only [Rp] at rx
    exact ⟨_, rx, te_ok rel1 q1 (rp_int _)⟩
end
end
end Qy

set_option Elab.async false
set_option linter.all false
set_option maxRecDepth 100000
/-! Q5: comparisons and tests. -/
namespace Qy
open PySem PySem.Spec L2
/-! ### equality of data -/
mutual
def toP : D → PyData
  | .non => .none
  | .bl b => .bool b
  | .int i => .int i
  | .str s => .str s
  | .tup xs => .tuple (toPs xs)
  | .lst xs => .list (toPs xs)
  | .dk _ _ => .dict []
  | .dt _ _ => .dict []
  | .obj _ _ _ => .dict []
  | .scr _ => .dict []
  | .dn _ => .dict []
  | .my _ => .dict []
def toPs : List D → List PyData
  | [] => []
  | d :: ds => toP d :: toPs ds
end
def okP (d : D) : Bool := SeqAt.shaped (toP d)
def deq (x y : D) : Bool := PyData.eqv (toP x) (toP y)
theorem toPs_map : ∀ ds : List D, toPs ds = ds.map toP
  | [] => by simp only [toPs, List.map_nil]
  | d :: ds => by simp only [toPs, List.map_cons, toPs_map ds]
mutual
theorem Rp.dp {K : Fg} {S : Hp} : ∀ {d : D} {v : V}, PyData.canLay0 (toP d) = true → Rp K S d v → Dp K S v (toP d)
  | .non, v, _, h => by simp only [Rp] at h; subst h; simp only [toP]; exact .non
  | .bl b, v, _, h => by simp only [Rp] at h; subst h; simp only [toP]; exact .bl b
  | .int i, v, _, h => by simp only [Rp] at h; subst h; simp only [toP]; exact .int i
  | .str s, v, _, h => by simp only [Rp] at h; subst h; simp only [toP]; exact .str s
  | .tup xs, v, c, h => by
    simp only [Rp] at h
    obtain ⟨a, vs, rfl, e, r⟩ := h
    simp only [toP] at c ⊢
    simp only [PyData.canLay0] at c
    exact .tup (.inl (.inl e)) (Rps.dp c r)
  | .lst xs, v, c, h => by
    simp only [Rp] at h
    obtain ⟨a, vs, rfl, e, r⟩ := h
    simp only [toP] at c ⊢
    simp only [PyData.canLay0] at c
    exact .lst (.inl (.inl e)) (Rps.dp c r)
  | .dk _ _, v, c, h => by simp only [toP, PyData.canLay0] at c; cases c
  | .dt _ _, v, c, h => by simp only [toP, PyData.canLay0] at c; cases c
  | .obj _ _ _, v, c, h => by simp only [toP, PyData.canLay0] at c; cases c
  | .scr _, v, c, h => by simp only [toP, PyData.canLay0] at c; cases c
  | .dn _, v, c, h => by simp only [toP, PyData.canLay0] at c; cases c
  | .my _, v, c, h => by simp only [toP, PyData.canLay0] at c; cases c
theorem Rps.dp {K : Fg} {S : Hp} : ∀ {ds : List D} {vs : List V}, PyData.canLayAll0 (toPs ds) = true → Rps K S ds vs → DpAll K S vs (toPs ds)
  | [], vs, _, h => by simp only [Rps] at h; subst h; simp only [toPs]; exact .nil
  | d :: ds, vs, c, h => by
    simp only [Rps] at h
    obtain ⟨v, r, rfl, q, z⟩ := h
    simp only [toPs, PyData.canLayAll0, Bool.and_eq_true] at c ⊢
    exact .cons (Rp.dp c.1 q) (Rps.dp c.2 z)
end
theorem dp_of {K : Fg} {S : Hp} {d : D} {v : V} (o : okP d = true) (h : Rp K S d v) : Dp K S v (toP d) := Rp.dp (SeqAt.canLay_of_shaped o) h
def eqD (x y : D) : Option Bool := if okP x = true ∧ okP y = true then some (deq x y) else none
def neD (x y : D) : Option Bool := if okP x = true ∧ okP y = true then some (!deq x y) else none
/-- what a comparison asks: both sides are read at once -/
def CmG (X : Cx) (r : R2) (g : D → D → Option Bool) : Prop := ∀ (S H : Hp) (x y : D) (c : Bool) (v u : V) (Q : VK), Rp X.K H x v → Rp X.K H y u → g x y = some c → Q (.bl c) H → r v u H Q
theorem cmg_eq {X : Cx} : CmG X (rEqD X.K) eqD := fun S H x y c v u Q rx ry e q => by
  by_cases z : okP x = true ∧ okP y = true
  · have e' : some (deq x y) = some c := by rw [← e]; exact (if_pos z).symm
    cases e'
    exact ⟨_, _, dp_of z.1 rx, dp_of z.2 ry, z.1, z.2, q⟩
  · rw [show eqD x y = none from if_neg z] at e; cases e
theorem cmg_ne {X : Cx} : CmG X (rNeD X.K) neD := fun S H x y c v u Q rx ry e q => by
  by_cases z : okP x = true ∧ okP y = true
  · have e' : some (!deq x y) = some c := by rw [← e]; exact (if_pos z).symm
    cases e'
    exact ⟨_, _, dp_of z.1 rx, dp_of z.2 ry, z.1, z.2, q⟩
  · rw [show neD x y = none from if_neg z] at e; cases e
/-- two ints, or two texts -/
def ordD (f : Int → Int → Bool) (g : List Nat → List Nat → Bool) : D → D → Option Bool
  | .int i, .int j => some (f i j)
  | .str s, .str t => some (g s.cps.toList t.cps.toList)
  | _, _ => none
def ltD := ordD (fun i j => decide (i < j)) fun s t => decide (s < t)
def leD := ordD (fun i j => decide (i ≤ j)) fun s t => !decide (t < s)
def gtD := ordD (fun i j => decide (j < i)) fun s t => decide (t < s)
def geD := ordD (fun i j => decide (j ≤ i)) fun s t => !decide (s < t)
def rOrd (f : Int → Int → Bool) (g : List Nat → List Nat → Bool) : R2 := fun x y H Q => rI0 (fun i j => .bl (f i j)) x y H Q ∨ ∃ i j, x = .str i ∧ y = .str j ∧ Q (.bl (g i.cps.toList j.cps.toList)) H
theorem cmg_ord {X : Cx} {f : Int → Int → Bool} {g : List Nat → List Nat → Bool} : CmG X (rOrd f g) (ordD f g) := fun S H x y c v u Q rx ry e q => by
  cases x <;> cases y <;> first
    | (cases e; done)
    | skip
  · simp only [Rp] at rx ry
    cases e
    exact .inl ⟨_, _, rx, ry, q⟩
  · simp only [Rp] at rx ry
    cases e
    exact .inr ⟨_, _, rx, ry, q⟩
theorem op_ltQ {X : Cx} : OpR X (compareOp .Lt) (rOrd (fun i j => decide (i < j)) fun s t => decide (s < t)) := op_lt.or op_lt_str
theorem op_leQ {X : Cx} : OpR X (compareOp .LtE) (rOrd (fun i j => decide (i ≤ j)) fun s t => !decide (t < s)) := op_le.or op_le_str
theorem op_gtQ {X : Cx} : OpR X (compareOp .Gt) (rOrd (fun i j => decide (j < i)) fun s t => decide (t < s)) := op_gt.or op_gt_str
theorem op_geQ {X : Cx} : OpR X (compareOp .GtE) (rOrd (fun i j => decide (j ≤ i)) fun s t => !decide (s < t)) := op_ge.or op_ge_str
/-! ### look-ups -/
def getD' {κ : Type} [DecidableEq κ] : List κ → List D → κ → Option D
  | k :: ks, d :: ds, x => if k = x then some d else getD' ks ds x
  | _, _, _ => none
theorem getD_ok {κ : Type} [DecidableEq κ] {K : Fg} {S : Hp} (x : κ) : ∀ {kvs : List (κ × V)} {ds : List D}, Rps K S ds (kvs.map (·.2)) →
    (∃ d v, getD' (kvs.map (·.1)) ds x = some d ∧ valV kvs x = some v ∧ Rp K S d v) ∨ (getD' (kvs.map (·.1)) ds x = none ∧ valV kvs x = none)
  | [], ds, h => .inr ⟨by cases ds <;> rfl, rfl⟩
  | (k, v) :: kvs, [], h => by simp only [List.map_cons, Rps] at h; cases h
  | (k, v) :: kvs, d :: ds, h => by
    simp only [List.map_cons, Rps] at h
    obtain ⟨v', r, e, q, z⟩ := h
    cases e
    by_cases hk : k = x
    · exact .inl ⟨d, v, by simp [getD', hk], valV_pos hk, q⟩
    · rcases getD_ok x z with ⟨d', v', e1, e2, q'⟩ | ⟨e1, e2⟩
      · exact .inl ⟨d', v', by simp [getD', hk]; exact e1, by rw [valV_neg hk]; exact e2, q'⟩
      · exact .inr ⟨by simp [getD', hk]; exact e1, by rw [valV_neg hk]; exact e2⟩
/-- a key -/
def key1 : D → Option Key
  | .int i => some (.inl i)
  | .str s => some (.inr s)
  | _ => none
def key1s : List D → Option (List Key)
  | [] => some []
  | d :: ds => (key1 d).bind fun k => (key1s ds).map fun ks => k :: ks
def keyT : D → Option (List Key)
  | .tup ds => key1s ds
  | _ => none
theorem key1_ok {K : Fg} {S : Hp} {d : D} {v : V} {k : Key} (e : key1 d = some k) (h : Rp K S d v) : v = kV k := by
  cases d <;> first
    | (cases e; done)
    | skip
  · simp only [Rp] at h; cases e; exact h
  · simp only [Rp] at h; cases e; exact h
theorem key1s_ok {K : Fg} {S : Hp} : ∀ {ds : List D} {vs : List V} {ks : List Key}, key1s ds = some ks → Rps K S ds vs → vs = ks.map kV
  | [], vs, ks, e, h => by simp only [Rps] at h; cases e; exact h
  | d :: ds, vs, ks, e, h => by
    simp only [Rps] at h
    obtain ⟨v, r, rfl, q, z⟩ := h
    have e' : ((key1 d).bind fun k => (key1s ds).map fun ks => k :: ks) = some ks := e
    cases h1 : key1 d with
    | none => rw [h1] at e'; cases e'
    | some k =>
      rw [h1] at e'
      have e'' : ((key1s ds).map fun ks => k :: ks) = some ks := e'
      cases h2 : key1s ds with
      | none => rw [h2] at e''; cases e''
      | some k2 =>
        rw [h2] at e''
        cases e''
        rw [List.map_cons, ← key1_ok h1 q, ← key1s_ok h2 z]
theorem keyT_ok {K : Fg} {S : Hp} {d : D} {v : V} {k : List Key} (e : keyT d = some k) (h : Rp K S d v) : ∃ b, v = .ref b ∧ S b = some (.tup (k.map kV)) := by
  cases d <;> first
    | (cases e; done)
    | skip
  simp only [Rp] at h
  obtain ⟨a, vs, rfl, e1, r⟩ := h
  exact ⟨a, rfl, by rw [e1, key1s_ok e r]⟩
/-- what a dict holds at a key: none where there is no rule -/
def lookD : D → D → Option (Option D)
  | .dk ks ds, x => (key1 x).map fun k => getD' ks ds k
  | .dt ks ds, x => (keyT x).map fun k => getD' ks ds k
  | _, _ => none
theorem lookD_ok {K : Fg} {S H : Hp} {c x : D} {v u : V} {o : Option D} (e : lookD c x = some o) (hc : Rp K S c v) (hx : Rp K H x u) (le : ∀ a u, isF u = false → Rd S a u → Rd H a u) :
    ∃ a w, v = .ref a ∧ DGet H a u w ∧ ((∃ d y, o = some d ∧ w = some y ∧ Rp K S d y) ∨ (o = none ∧ w = none)) := by
  cases c <;> first
    | (cases e; done)
    | skip
  · rename_i ks ds
    simp only [Rp] at hc
    obtain ⟨a, kvs, rfl, hr, rfl, r⟩ := hc
    have e' : ((key1 x).map fun k => getD' (kvs.map (·.1)) ds k) = some o := e
    cases hk : key1 x with
    | none => rw [hk] at e'; cases e'
    | some k =>
      rw [hk] at e'
      have e2 : getD' (kvs.map (·.1)) ds k = o := Option.some.inj e'
      refine ⟨a, valV kvs k, rfl, .inl ⟨kvs, k, le _ _ rfl hr, key1_ok hk hx, rfl⟩, ?_⟩
      rcases getD_ok k r with ⟨d, y, e3, e4, q⟩ | ⟨e3, e4⟩
      · exact .inl ⟨d, y, by rw [← e2]; exact e3, e4, q⟩
      · exact .inr ⟨by rw [← e2]; exact e3, e4⟩
  · rename_i ks ds
    simp only [Rp] at hc
    obtain ⟨a, kvs, rfl, hr, rfl, r⟩ := hc
    have e' : ((keyT x).map fun k => getD' (kvs.map (·.1)) ds k) = some o := e
    cases hk : keyT x with
    | none => rw [hk] at e'; cases e'
    | some k =>
      rw [hk] at e'
      have e2 : getD' (kvs.map (·.1)) ds k = o := Option.some.inj e'
      obtain ⟨b, rfl, hb⟩ := keyT_ok hk hx
      refine ⟨a, valV kvs k, rfl, .inr ⟨kvs, k, b, le _ _ rfl hr, rfl, hb, rfl⟩, ?_⟩
      rcases getD_ok k r with ⟨d, y, e3, e4, q⟩ | ⟨e3, e4⟩
      · exact .inl ⟨d, y, by rw [← e2]; exact e3, e4, q⟩
      · exact .inr ⟨by rw [← e2]; exact e3, e4⟩
/-! ### in -/
def flatD : D → Bool
  | .non => true
  | .bl _ => true
  | .int _ => true
  | .str _ => true
  | _ => false
theorem flat_ok {K : Fg} {S : Hp} {d : D} {v : V} (f : flatD d = true) (h : Rp K S d v) : flatV v = true := by
  cases d <;> first
    | (cases f; done)
    | (simp only [Rp] at h; subst h; rfl)
theorem flats_ok {K : Fg} {S : Hp} : ∀ {ds : List D} {vs : List V}, ds.all flatD = true → Rps K S ds vs → vs.all flatV = true
  | [], vs, _, h => by simp only [Rps] at h; subst h; rfl
  | d :: ds, vs, f, h => by
    simp only [Rps] at h
    obtain ⟨v, r, rfl, q, z⟩ := h
    simp only [List.all_cons, Bool.and_eq_true] at f ⊢
    exact ⟨flat_ok f.1 q, flats_ok f.2 z⟩
theorem eqV_deq {K : Fg} {S S' : Hp} {d e : D} {v u : V} (f : flatD d = true) (g : flatD e = true) (h : Rp K S d v) (h' : Rp K S' e u) : eqV v u = deq d e := by
  cases d <;> first
    | (cases f; done)
    | (cases e <;> first
        | (cases g; done)
        | (simp only [Rp] at h h'; subst h h'; simp only [deq, toP, PyData.eqv, eqV]))
theorem inV_deq {K : Fg} {S S' : Hp} {x : D} {u : V} (g : flatD x = true) (h' : Rp K S' x u) : ∀ {ds : List D} {vs : List V}, ds.all flatD = true → Rps K S ds vs → inV u vs = ds.any fun d => deq d x
  | [], vs, _, h => by simp only [Rps] at h; subst h; rfl
  | d :: ds, vs, f, h => by
    simp only [Rps] at h
    obtain ⟨v, r, rfl, q, z⟩ := h
    simp only [List.all_cons, Bool.and_eq_true] at f
    have ih := inV_deq g h' f.2 z
    unfold inV at ih ⊢
    simp only [List.any_cons]
    rw [ih, eqV_deq f.1 g q h']
/-- x in c -/
def inD (x c : D) : Option Bool := match c with
  | .lst ds => if (flatD x && ds.all flatD) = true then some (ds.any fun d => deq d x) else if okP x = true ∧ okP (.lst ds) = true then some (ds.any fun d => deq d x) else none
  | .tup ds => if (flatD x && ds.all flatD) = true then some (ds.any fun d => deq d x) else none
  | .str t => match x with
    | .str s => if s.cps.size = 1 then some (decide (s.cps.toList.getD 0 0 ∈ t.cps.toList)) else none
    | _ => none
  | c => (lookD c x).map (·.isSome)
def rInQ (K : Fg) : R2 := fun x y H Q => (∃ p xs b, y = .ref p ∧ (SqL K H p xs ∨ SqT K H p xs) ∧ flatV x = true ∧ xs.all flatV = true ∧ inV x xs = b ∧ Q (.bl b) H) ∨
  (∃ d ds b, Dp K H x d ∧ Dp K H y (.list ds) ∧ SeqAt.shaped d = true ∧ SeqAt.shaped (.list ds) = true ∧ (ds.any fun z => PyData.eqv z d) = b ∧ Q (.bl b) H) ∨ (∃ (c : Nat) (z : Str), x = .str ⟨#[c]⟩ ∧ y = .str z ∧ Q (.bl (decide (c ∈ z.cps.toList))) H) ∨ ∃ a o, y = .ref a ∧ DGet H a x o ∧ Q (.bl o.isSome) H
def rNotInQ (K : Fg) : R2 := fun x y H Q => (∃ p xs b, y = .ref p ∧ (SqL K H p xs ∨ SqT K H p xs) ∧ flatV x = true ∧ xs.all flatV = true ∧ inV x xs = b ∧ Q (.bl (!b)) H) ∨
  (∃ d ds b, Dp K H x d ∧ Dp K H y (.list ds) ∧ SeqAt.shaped d = true ∧ SeqAt.shaped (.list ds) = true ∧ (ds.any fun z => PyData.eqv z d) = b ∧ Q (.bl (!b)) H) ∨ (∃ (c : Nat) (z : Str), x = .str ⟨#[c]⟩ ∧ y = .str z ∧ Q (.bl (!decide (c ∈ z.cps.toList))) H) ∨ ∃ a o, y = .ref a ∧ DGet H a x o ∧ Q (.bl (!o.isSome)) H
theorem op_inQ {X : Cx} (hu : X.A.units + 65 < cLine) : OpR X (compareOp .In) (rInQ X.K) := by
  intro pins s σ H x y v u Q I rx ry h
  rcases h with h | h | h | h
  · obtain ⟨p, xs, b, e, h1, h2, h3, rfl, q⟩ := h
    exact op_in_seq pins s σ H x y v u Q I rx ry ⟨p, xs, e, h1, h2, h3, q⟩
  · obtain ⟨d, ds, b, h1, h2, h3, h4, rfl, q⟩ := h
    exact op_inD hu pins s σ H x y v u Q I rx ry ⟨d, ds, h1, h2, h3, h4, q⟩
  · exact op_in_sign pins s σ H x y v u Q I rx ry h
  · obtain ⟨a, o, rfl, g, q⟩ := h
    cases ry
    exact d_in (by omega) I g rx fun s' I' => ⟨.bl _, H, I', rfl, q⟩
theorem op_notInQ {X : Cx} (hu : X.A.units + 65 < cLine) : OpR X (compareOp .NotIn) (rNotInQ X.K) := by
  intro pins s σ H x y v u Q I rx ry h
  rcases h with h | h | h | h
  · obtain ⟨p, xs, b, e, h1, h2, h3, rfl, q⟩ := h
    exact op_notIn_seq pins s σ H x y v u Q I rx ry ⟨p, xs, e, h1, h2, h3, q⟩
  · obtain ⟨d, ds, b, h1, h2, h3, h4, rfl, q⟩ := h
    exact op_notInD hu pins s σ H x y v u Q I rx ry ⟨d, ds, h1, h2, h3, h4, q⟩
  · exact op_notIn_sign pins s σ H x y v u Q I rx ry h
  · obtain ⟨a, o, rfl, g, q⟩ := h
    cases ry
    exact d_notIn (by omega) I g rx fun s' I' => ⟨.bl _, H, I', rfl, q⟩
theorem str1 {s : Str} (h : s.cps.size = 1) : s = ⟨#[s.cps.toList.getD 0 0]⟩ := by
  obtain ⟨⟨l⟩⟩ := s
  cases l with
  | nil => simp at h
  | cons c r =>
    cases r with
    | nil => rfl
    | cons _ _ => simp at h
theorem in_core {X : Cx} {H : Hp} {x y : D} {c : Bool} {v u : V} (rx : Rp X.K H x v) (ry : Rp X.K H y u) (e : inD x y = some c) :
    (∃ p xs, u = .ref p ∧ (SqL X.K H p xs ∨ SqT X.K H p xs) ∧ flatV v = true ∧ xs.all flatV = true ∧ inV v xs = c) ∨
    (∃ d ds, Dp X.K H v d ∧ Dp X.K H u (.list ds) ∧ SeqAt.shaped d = true ∧ SeqAt.shaped (.list ds) = true ∧ (ds.any fun z => PyData.eqv z d) = c) ∨ (∃ (k : Nat) (z : Str), v = .str ⟨#[k]⟩ ∧ u = .str z ∧ decide (k ∈ z.cps.toList) = c) ∨ ∃ a o, u = .ref a ∧ DGet H a v o ∧ o.isSome = c := by
  have dict : ∀ y' : D, Rp X.K H y' u → ((lookD y' x).map (·.isSome)) = some c → ∃ a o, u = .ref a ∧ DGet H a v o ∧ o.isSome = c := fun y' ry e => by
    cases hl : lookD y' x with
    | none => rw [hl] at e; cases e
    | some o =>
      rw [hl] at e
      obtain ⟨a, w, rfl, g, q⟩ := lookD_ok hl ry rx fun _ _ _ h => h
      refine ⟨a, w, rfl, g, ?_⟩
      have e2 : o.isSome = c := Option.some.inj e
      rcases q with ⟨d, y, rfl, rfl, _⟩ | ⟨rfl, rfl⟩ <;> exact e2
  cases y with
  | lst ds =>
    have ry0 := ry
    simp only [Rp] at ry
    obtain ⟨p, vs, rfl, hp, rs⟩ := ry
    simp only [inD] at e
    split at e
    · rename_i f
      simp only [Bool.and_eq_true] at f
      cases e
      exact .inl ⟨p, vs, rfl, .inl (.inl (.inl hp)), flat_ok f.1 rx, flats_ok f.2 rs, inV_deq f.1 rx f.2 rs⟩
    · split at e
      · rename_i z
        cases e
        have h2 := dp_of z.2 ry0
        have ok2 : SeqAt.shaped (toP (.lst ds)) = true := z.2
        simp only [toP] at h2 ok2
        refine .inr (.inl ⟨toP x, toPs ds, dp_of z.1 rx, h2, z.1, ok2, ?_⟩)
        rw [toPs_map, List.any_map]
        rfl
      · cases e
  | tup ds =>
    simp only [Rp] at ry
    obtain ⟨p, vs, rfl, hp, rs⟩ := ry
    simp only [inD] at e
    split at e
    · rename_i f
      simp only [Bool.and_eq_true] at f
      cases e
      exact .inl ⟨p, vs, rfl, .inr (.inl (.inl hp)), flat_ok f.1 rx, flats_ok f.2 rs, inV_deq f.1 rx f.2 rs⟩
    · cases e
  | str t =>
    cases x with
    | str s =>
      simp only [inD] at e
      split at e
      · rename_i z
        cases e
        simp only [Rp] at rx ry
        exact .inr (.inr (.inl ⟨_, t, by rw [rx]; exact congrArg V.str (str1 z), ry, rfl⟩))
      · cases e
    | _ => simp only [inD] at e; cases e
  | dk ks ds => exact .inr (.inr (.inr (dict _ ry e)))
  | dt ks ds => exact .inr (.inr (.inr (dict _ ry e)))
  | _ => simp only [inD, lookD] at e; cases e
theorem cmg_in {X : Cx} : CmG X (rInQ X.K) inD := fun S H x y c v u Q rx ry e q => by
  rcases in_core rx ry e with ⟨p, xs, h1, h2, h3, h4, h5⟩ | ⟨d, ds, h1, h2, h3, h4, h5⟩ | ⟨k, z, h1, h2, h3⟩ | ⟨a, o, h1, h2, h3⟩
  · exact .inl ⟨p, xs, c, h1, h2, h3, h4, h5, q⟩
  · exact .inr (.inl ⟨d, ds, c, h1, h2, h3, h4, h5, q⟩)
  · exact .inr (.inr (.inl ⟨k, z, h1, h2, by rw [h3]; exact q⟩))
  · exact .inr (.inr (.inr ⟨a, o, h1, h2, by rw [h3]; exact q⟩))
def notInD (x c : D) : Option Bool := (inD x c).map (!·)
theorem cmg_notIn {X : Cx} : CmG X (rNotInQ X.K) notInD := fun S H x y c v u Q rx ry e q => by
  have e : (inD x y).map (!·) = some c := e
  cases e0 : inD x y with
  | none => rw [e0] at e; cases e
  | some c0 =>
    rw [e0] at e
    cases e
    rcases in_core rx ry e0 with ⟨p, xs, h1, h2, h3, h4, h5⟩ | ⟨d, ds, h1, h2, h3, h4, h5⟩ | ⟨k, z, h1, h2, h3⟩ | ⟨a, o, h1, h2, h3⟩
    · exact .inl ⟨p, xs, c0, h1, h2, h3, h4, h5, q⟩
    · exact .inr (.inl ⟨d, ds, c0, h1, h2, h3, h4, h5, q⟩)
    · exact .inr (.inr (.inl ⟨k, z, h1, h2, by rw [h3]; exact q⟩))
    · exact .inr (.inr (.inr ⟨a, o, h1, h2, by rw [h3]; exact q⟩))
def isNon : D → Bool
  | .non => true
  | _ => false
def isNonD (x y : D) : Option Bool := match y with
  | .non => some (isNon x)
  | _ => none
theorem non_iff {K : Fg} {S : Hp} {x : D} {v : V} (h : Rp K S x v) : decide (v = .non) = isNon x := by
  cases x <;> simp only [Rp] at h
  case non => rw [h]; rfl
  case bl => rw [h]; rfl
  case int => rw [h]; rfl
  case str => rw [h]; rfl
  case scr => obtain ⟨a, rfl, _⟩ := h; rfl
  case dn => obtain ⟨a, rfl, _⟩ := h; rfl
  case obj => obtain ⟨a, _, _, rfl, _⟩ := h; rfl
  all_goals (obtain ⟨a, _, rfl, _⟩ := h; rfl)
theorem cmg_isN {X : Cx} : CmG X (fun x y H Q => y = .non ∧ Q (.bl (decide (x = .non))) H) isNonD := fun S H x y c v u Q rx ry e q => by
  cases y <;> first
    | (cases e; done)
    | skip
  simp only [Rp] at ry
  refine ⟨ry, ?_⟩
  rw [non_iff rx]
  cases e
  exact q
end Qy

set_option Elab.async false
set_option linter.all false
set_option maxRecDepth 100000
/-! Q6: comparisons as expressions and tests, and, or, not, if-else, truth. -/
namespace Qy
open PySem PySem.Spec L2
section
variable {X : Cx} {κ : Kp} {W : WX} {pos : Pos} {a b c e : Expr} {es : List Expr} {f1 f2 f3 : M D} {g g' : D → D → Option Bool} {r r' : R2} {op op' : CmpOp}
theorem bindG {K : Fg} {α β α' β' : Type} {Rr : Hp → Hp → α → β → Prop} {Rr' : Hp → Hp → α' → β' → Prop} {f : M α} {k : α → M α'} {ρ : Rho} {Wo : Addr → Prop} {σ : L2.St} {H : Hp} {Q : β' → Hp → Prop} (h : EvG Rr' K κ W Wo σ H (bnd f k ρ) Q) {Rz : β → Hp → Prop}
    (i : ∀ v H1 d ρ1, Fr Wo H H1 → Rel K κ ρ1 Wo σ H1 → Rr (vw κ Wo H1) H1 d v → EvG Rr' K κ W Wo σ H1 (k d ρ1) Q → Rz v H1) : EvG Rr K κ W Wo σ H (f ρ) Rz :=
  (EvG.bind h).imp fun v H1 ⟨d, ρ1, fr1, rel1, rp, q⟩ => i v H1 d ρ1 fr1 rel1 rp q
def gCmp (g : D → D → Option Bool) (f1 f2 : M D) : M D := bnd f1 fun x => bnd f2 fun y => ofO ((g x y).map D.bl)
def gCmpT (g : D → D → Option Bool) (f1 f2 : M D) : M Bool := bnd f1 fun x => bnd f2 fun y => ofO (g x y)
theorem qe_cmp (ho : OpR X (compareOp op) r) (hg : CmG X r g) (ha : QE X κ W a f1) (hb : QR X κ W b f2) (hm : behindInMarks op b = false := by first | exact nomark _ | rfl) : QE X κ W (.Compare a [op] [b] pos) (gCmp g f1 f2) :=
  PE.imp (pe_cmpR ho ha hb hm) fun σ H Q ⟨ρ, Wo, rel, q⟩ => ⟨ρ, Wo, rel, bindG q fun v H1 x ρ1 fr1 rel1 rx q1 => ⟨ρ1, Wo, rel1, bindG q1 fun u H2 y ρ2 fr2 rel2 ry q2 => by
    cases z : g x y with
    | none => rw [z] at q2; exact q2.elim
    | some k =>
      rw [z] at q2
      exact hg H H2 x y k v u Q ((rx.mono (Ord.fr fr2)).mono hide_le) ry z (te_ok rel2 q2 (rp_bl k))⟩⟩
theorem qt_cmp (ho : OpR X (compareOp op) r) (hg : CmG X r g) (ha : QE X κ W a f1) (hb : QR X κ W b f2) (hm : behindInMarks op b = false := by first | exact nomark _ | rfl) : QT X κ W (.Compare a [op] [b] pos) (gCmpT g f1 f2) :=
  PT.imp (pt_cmpR ho ha hb hm) fun σ H Q ⟨ρ, Wo, rel, q⟩ => ⟨ρ, Wo, rel, bindG q fun v H1 x ρ1 fr1 rel1 rx q1 => ⟨ρ1, Wo, rel1, bindG q1 fun u H2 y ρ2 fr2 rel2 ry q2 => by
    cases z : g x y with
    | none => rw [z] at q2; exact q2.elim
    | some k =>
      rw [z] at q2
      exact hg H H2 x y k v u _ ((rx.mono (Ord.fr fr2)).mono hide_le) ry z ⟨k, rfl, q2 k H2 (.refl _) rel2 rfl⟩⟩⟩
/-! chains -/
def gChainT (g g' : D → D → Option Bool) (f1 f2 f3 : M D) : M Bool := bnd f1 fun x => bnd f2 fun y => match g x y with
  | none => stuck
  | some false => ret false
  | some true => bnd f3 fun z => ofO (g' y z)
theorem qt_chain (ho : OpR X (compareOp op) r) (hg : CmG X r g) (ho' : OpR X (compareOp op') r') (hg' : CmG X r' g') (ha : QE X κ W a f1) (hb : QE X κ W b f2) (hc : QE X κ W c f3) (hm : lastMarks [op, op'] [b, c] = false := by with_unfolding_all rfl) :
    QT X κ W (.Compare a [op, op'] [b, c] pos) (gChainT g g' f1 f2 f3) :=
  PT.imp (pt_chain ho ho' ha hb hc hm) fun σ H Q ⟨ρ, Wo, rel, q⟩ => ⟨ρ, Wo, rel, bindG q fun v H1 x ρ1 fr1 rel1 rx q1 => ⟨ρ1, Wo, rel1, bindG q1 fun u H2 y ρ2 fr2 rel2 ry q2 => by
    cases z : g x y with
    | none => rw [z] at q2; exact q2.elim
    | some k =>
      rw [z] at q2
      refine hg H H2 x y k v u _ ((rx.mono (Ord.fr fr2)).mono hide_le) (ry.mono hide_le) z ⟨k, rfl, ?_⟩
      cases k with
      | false => exact ⟨false, rfl, q2 false H2 (.refl _) rel2 rfl⟩
      | true =>
        refine ⟨ρ2, Wo, rel2, bindG q2 fun w H3 z' ρ3 fr3 rel3 rz q3 => ?_⟩
        cases z2 : g' y z' with
        | none => rw [z2] at q3; exact q3.elim
        | some k2 =>
          rw [z2] at q3
          exact hg' H H3 y z' k2 u w _ ((ry.mono (Ord.fr fr3)).mono hide_le) (rz.mono hide_le) z2 ⟨k2, rfl, q3 k2 H3 (.refl _) rel3 rfl⟩⟩⟩
/-! ### tests -/
variable {t u : M Bool}
def gNotT (t : M Bool) : M Bool := bnd t fun k => ret (!k)
def gAndT (t u : M Bool) : M Bool := bnd t fun k => if k = true then u else ret false
def gOrT (t u : M Bool) : M Bool := bnd t fun k => if k = true then ret true else u
theorem qt_not (ha : QT X κ W a t) : QT X κ W (.UnaryOp .Not a pos) (gNotT t) :=
  PT.imp (pt_not ha) fun σ H Q ⟨ρ, Wo, rel, q⟩ => ⟨ρ, Wo, rel, bindG q fun k H1 k' ρ1 fr1 rel1 e q1 => by subst e; exact q1 _ H1 (.refl _) rel1 rfl⟩
theorem qw_and1 (ha : QT X κ W a t) : QW X κ W (.BoolOp .And [a] pos) t := pw_and1 ha
theorem qw_or1 (ha : QT X κ W a t) : QW X κ W (.BoolOp .Or [a] pos) t := pw_or1 ha
theorem qw_and (ha : QT X κ W a t) (hb : QW X κ W (.BoolOp .And (b :: es) pos) u) : QW X κ W (.BoolOp .And (a :: b :: es) pos) (gAndT t u) :=
  PW.imp (pw_and ha hb) fun σ H Q ⟨ρ, Wo, rel, q⟩ => ⟨ρ, Wo, rel, bindG q fun k H1 k' ρ1 fr1 rel1 e q1 => by
    subst e
    cases k' with
    | true => exact ⟨ρ1, Wo, rel1, q1⟩
    | false => exact q1 _ H1 (.refl _) rel1 rfl⟩
theorem qw_or (ha : QT X κ W a t) (hb : QW X κ W (.BoolOp .Or (b :: es) pos) u) : QW X κ W (.BoolOp .Or (a :: b :: es) pos) (gOrT t u) :=
  PW.imp (pw_or ha hb) fun σ H Q ⟨ρ, Wo, rel, q⟩ => ⟨ρ, Wo, rel, bindG q fun k H1 k' ρ1 fr1 rel1 e q1 => by
    subst e
    cases k' with
    | true => exact q1 _ H1 (.refl _) rel1 rfl
    | false => exact ⟨ρ1, Wo, rel1, q1⟩⟩
theorem qt_w (h : QW X κ W e t) : QT X κ W e t := PW.pt h
/-- a value's truth -/
def truD : D → Option Bool
  | .non => some false
  | .bl b => some b
  | .int i => some (i != 0)
  | .str s => if s.length ≤ 16777216 then some ((s.length : Int) != 0) else none
  | .lst xs => some (!xs.isEmpty)
  | .tup xs => some (!xs.isEmpty)
  | .dk ks _ => some (!ks.isEmpty)
  | _ => none
def rTru (K : Fg) : V → Hp → (Bool → Hp → Prop) → Prop := fun x H Q => (∃ k, TruV K x H k ∧ Q k H) ∨ ∃ a kvs, x = .ref a ∧ Rd H a (.dK kvs) ∧ Q (!kvs.isEmpty) H
theorem tru_okQ : TruR X (rTru X.K) := by
  intro pins s σ H x v Q I rx h
  rcases h with h | ⟨a, kvs, rfl, hr, q⟩
  · exact tru_ok pins s σ H x v Q I rx h
  · cases rx
    exact d_truth I hr fun s' I' => ⟨H, I', q⟩
theorem pt_truthQ {ta : TE} (ha : PE X a ta) (he : ∀ whole, isTrue a X.env whole = (do let v ← whole; standAt a.pos; holding [v] (truthy v))) : PT X a (fun σ H Q => ta σ H fun x H' => rTru X.K x H' Q) :=
  ⟨fun pins s σ H Q I h => PyProof.Rows.isTrue_plain (thn (ha.run pins s σ H _ I h) fun v s1 ⟨x, H1, I1, r1, q1⟩ => tru_okQ pins s1 σ H1 x v Q I1 r1 q1) (he _)⟩
theorem isEmpty_len {α β : Type} {xs : List α} {ys : List β} (h : xs.length = ys.length) : xs.isEmpty = ys.isEmpty := by
  cases xs <;> cases ys <;> first
    | rfl
    | (simp at h)
theorem tru_d {K : Fg} {H : Hp} {d : D} {v : V} {k : Bool} {Q : Bool → Hp → Prop} (rp : Rp K H d v) (e : truD d = some k) (q : Q k H) : rTru K v H Q := by
  cases d with
  | non => simp only [Rp] at rp; subst rp; cases e; exact .inl ⟨_, rfl, q⟩
  | bl b => simp only [Rp] at rp; subst rp; cases e; exact .inl ⟨_, rfl, q⟩
  | int i => simp only [Rp] at rp; subst rp; cases e; exact .inl ⟨_, rfl, q⟩
  | str s =>
    simp only [Rp] at rp; subst rp
    simp only [truD] at e
    split at e
    · rename_i hl
      cases e
      exact .inl ⟨_, ⟨hl, rfl⟩, q⟩
    · cases e
  | lst xs =>
    simp only [Rp] at rp
    obtain ⟨a, vs, rfl, h, r⟩ := rp
    cases e
    rw [isEmpty_len r.length] at q
    exact .inl ⟨_, .inl ⟨vs, .inl (.inl h), rfl⟩, q⟩
  | tup xs =>
    simp only [Rp] at rp
    obtain ⟨a, vs, rfl, h, r⟩ := rp
    cases e
    rw [isEmpty_len r.length] at q
    exact .inl ⟨_, .inr (.inl ⟨vs, .inl (.inl h), rfl⟩), q⟩
  | dk ks ds =>
    simp only [Rp] at rp
    obtain ⟨a, kvs, rfl, h, rfl, r⟩ := rp
    cases e
    rw [isEmpty_len (ys := kvs) (by rw [List.length_map])] at q
    exact .inr ⟨a, kvs, rfl, h, q⟩
  | _ => cases e
def gTru (f : M D) : M Bool := bnd f fun d => ofO (truD d)
theorem qt_tru {f : M D} (ha : QR X κ W a f) (he : ∀ whole, isTrue a X.env whole = (do let v ← whole; standAt a.pos; holding [v] (truthy v)) := by intro _; rfl) : QT X κ W a (gTru f) :=
  PT.imp (pt_truthQ ha he) fun σ H Q ⟨ρ, Wo, rel, q⟩ => ⟨ρ, Wo, rel, bindG q fun v H1 d ρ1 fr1 rel1 rp q1 => by
    cases z : truD d with
    | none => rw [z] at q1; exact q1.elim
    | some k => rw [z] at q1; exact tru_d rp z (q1 k H1 (.refl _) rel1 rfl)⟩
/-! ### as values -/
def gAndV (f1 f2 : M D) : M D := bnd f1 fun x => match x with
  | .bl true => f2
  | .bl false => ret (.bl false)
  | _ => stuck
def gOrV (f1 f2 : M D) : M D := bnd f1 fun x => match x with
  | .bl true => ret (.bl true)
  | .bl false => f2
  | _ => stuck
def gNotV (f1 : M D) : M D := bnd f1 fun x => match x with
  | .bl b => ret (.bl (!b))
  | _ => stuck
theorem qe_one {op} (h : QE X κ W a f1) : QE X κ W (.BoolOp op [a] pos) f1 := pe_one h
theorem qe_and (ha : QE X κ W a f1) (hb : QE X κ W (.BoolOp .And (b :: es) pos) f2) : QE X κ W (.BoolOp .And (a :: b :: es) pos) (gAndV f1 f2) :=
  PE.imp (pe_and ha hb) fun σ H Q ⟨ρ, Wo, rel, q⟩ => bindR rel q fun v H1 x ρ1 fr1 rel1 rx q1 => by
    cases x with
    | bl k =>
      simp only [Rp] at rx
      refine ⟨k, rx, ?_⟩
      cases k with
      | true => exact ⟨ρ1, Wo, rel1, q1⟩
      | false => exact te_ok rel1 q1 (rp_bl _)
    | _ => exact q1.elim
theorem qe_not (ha : QE X κ W a f1) : QE X κ W (.UnaryOp .Not a pos) (gNotV f1) :=
  PE.imp (pe_not ha) fun σ H Q ⟨ρ, Wo, rel, q⟩ => bindR rel q fun v H1 x ρ1 fr1 rel1 rx q1 => by
    cases x with
    | bl k =>
      simp only [Rp] at rx
      exact ⟨k, rx, te_ok rel1 q1 (rp_bl _)⟩
    | _ => exact q1.elim
def gIf {α : Type} (t : M Bool) (f1 f2 : M α) : M α := bnd t fun k => if k = true then f1 else f2
theorem qe_ifExp (hc : QT X κ W c t) (ha : QE X κ W a f1) (hb : QE X κ W b f2) : QE X κ W (.IfExp c a b pos) (gIf t f1 f2) :=
  PE.imp (pe_ifExp hc ha hb) fun σ H Q ⟨ρ, Wo, rel, q⟩ => ⟨ρ, Wo, rel, bindG q fun k H1 k' ρ1 fr1 rel1 e q1 => by
    subst e
    cases k' with
    | true => exact ⟨ρ1, Wo, rel1, q1⟩
    | false => exact ⟨ρ1, Wo, rel1, q1⟩⟩
end
end Qy

set_option Elab.async false
set_option linter.all false
set_option maxRecDepth 100000
/-! Q7: subscripts, slices, calls of built-ins. -/
namespace Qy
open PySem PySem.Spec L2
section
variable {X : Cx} {κ : Kp} {W : WX} {pos : Pos} {a b c e : Expr} {es : List Expr} {f1 f2 f3 : M D}
/-! ### subscripts -/
def ixD (c i : D) : Option D := match c with
  | .lst ds => match i with
    | .int i => atI ds i
    | _ => none
  | .tup ds => match i with
    | .int i => atI ds i
    | _ => none
  | .str s => match i with
    | .int i => if s.length ≤ 16777216 then (atI s.cps.toList i).map fun c => .str ⟨#[c]⟩ else none
    | _ => none
  | .scr ns => match i with
    | .int i => (atI ns i).map D.int
    | _ => none
  | c => (lookD c i).bind id
theorem atI_rel {α β : Type} {xs : List α} {ys : List β} {i : Int} {x : α} (hl : xs.length = ys.length) (h : atI xs i = some x) : ∃ (j : Nat) (y : β), xs[j]? = some x ∧ ys[j]? = some y ∧ atI ys i = some y := by
  unfold atI at h ⊢
  rw [hl] at h
  cases e : ixN ys.length i with
  | none => rw [e] at h; cases h
  | some j =>
    rw [e] at h
    have h : xs[j]? = some x := h
    have hj : j < ys.length := by rw [← hl]; exact (List.getElem?_eq_some_iff.mp h).1
    exact ⟨j, ys[j], h, by simp [hj], by simp [hj]⟩
def rIxQ (K : Fg) : R2 := fun x y H Q => rIx K x y H Q ∨ ∃ a v, x = .ref a ∧ DGet H a y (some v) ∧ Q v H
open PyProof.Rows in
theorem ix_dict {X : Cx} (hu : X.A.units + 1 < cLine) : IxR X (fun x y H Q => ∃ a v, x = .ref a ∧ DGet H a y (some v) ∧ Q v H) := by
  intro value slice pins s σ H x y v u Q I rx ry h hs
  obtain ⟨a, w, rfl, g, q⟩ := h
  cases rx
  have hT := dict_typeIs I g
  have h₂ : wpAny (model X.prog X.w) X.A (getItem (.ref a) u) (EP X pins σ Q) X.xe s := d_getItem hu I g ry fun w' s3 I3 rw' => ⟨w, H, I3, rw', q⟩
  unfold subscriptTail
  refine wpAny_bind ?_
  rw [getitemInPython_of_ne hT.not_modules]
  refine wpAny_bind (wpAny_specialOf hT PySem.F.slot_dict_getitem.lookup ?_)
  have fin : wpAny (model X.prog X.w) X.A (subscripted slice false (.ref a) u) (fun r s₃ => wpAny (model X.prog X.w) X.A (letTemporaryGo value (.ref a) r >>= fun _ => pure r) (EP X pins σ Q) X.xe s₃) X.xe s := by
    rw [hs]
    exact wpAny_operating (wpAny_mono h₂ (fun r s₃ h₃ => wpAny_bind (wpAny_letTemporaryGo (wpAny_pure h₃))) fun _ _ x => x)
  first
    | exact wpAny_pure (wpAny_bind fin)
    | exact wpAny_bind (wpAny_pure (wpAny_bind fin))
    | exact wpAny_bind fin
theorem ix_Q {X : Cx} (hu : X.A.units + 1 < cLine) : IxR X (rIxQ X.K) := ix_seq.or (ix_dict hu)
theorem ixD_ok {K : Fg} {S H : Hp} {x y d : D} {v u : V} {Q : VK} (rx : Rp K S x v) (ry : Rp K H y u) (le : ∀ a u, isF u = false → Rd S a u → Rd H a u) (e : ixD x y = some d) (q : ∀ w, Rp K S d w → Q w H) : rIxQ K v u H Q := by
  have dict : ∀ x' : D, Rp K S x' v → (lookD x' y).bind id = some d → rIxQ K v u H Q := fun x' rx e => by
    cases hl : lookD x' y with
    | none => rw [hl] at e; cases e
    | some o =>
      rw [hl] at e
      have e : o = some d := e
      subst e
      obtain ⟨a, w, rfl, g, z⟩ := lookD_ok hl rx ry le
      rcases z with ⟨d', y', h1, rfl, rp⟩ | ⟨h1, _⟩
      · cases h1
        exact .inr ⟨a, y', rfl, g, q _ rp⟩
      · cases h1
  cases x with
  | lst ds =>
    cases y with
    | int i =>
      simp only [Rp] at rx ry
      obtain ⟨p, vs, rfl, hp, rs⟩ := rx
      obtain ⟨j, w, h1, h2, h3⟩ := atI_rel rs.length (show atI ds i = some d from e)
      obtain ⟨w', h4, h5⟩ := rs.get h1
      rw [h2] at h4; cases h4
      exact .inl (.inl ⟨p, vs, i, w, rfl, ry, .inl (le _ _ rfl (.inl hp)), h3, q _ h5⟩)
    | _ => cases e
  | tup ds =>
    cases y with
    | int i =>
      simp only [Rp] at rx ry
      obtain ⟨p, vs, rfl, hp, rs⟩ := rx
      obtain ⟨j, w, h1, h2, h3⟩ := atI_rel rs.length (show atI ds i = some d from e)
      obtain ⟨w', h4, h5⟩ := rs.get h1
      rw [h2] at h4; cases h4
      exact .inl (.inr (.inl ⟨p, vs, i, w, rfl, ry, .inl (le _ _ rfl (.inl hp)), h3, q _ h5⟩))
    | _ => cases e
  | str s =>
    cases y with
    | int i =>
      simp only [Rp] at rx ry
      have e : (if s.length ≤ 16777216 then (atI s.cps.toList i).map fun c => D.str ⟨#[c]⟩ else none) = some d := e
      split at e
      · rename_i hl
        cases ha : atI s.cps.toList i with
        | none => rw [ha] at e; cases e
        | some k =>
          rw [ha] at e
          cases e
          exact .inl (.inr (.inr ⟨s, i, k, rx, ry, hl, ha, q _ (rp_str _)⟩))
      · cases e
    | _ => cases e
  | scr ns =>
    cases y with
    | int i =>
      simp only [Rp] at rx ry
      obtain ⟨p, rfl, hs⟩ := rx
      have e : (atI ns i).map D.int = some d := e
      cases ha : atI ns i with
      | none => rw [ha] at e; cases e
      | some k =>
        rw [ha] at e
        cases e
        obtain ⟨j, w, h1, h2, h3⟩ := atI_rel (ys := ns.map V.int) (by rw [List.length_map]) ha
        have hw : w = V.int k := by rw [List.getElem?_map, h1] at h2; exact (Option.some.inj h2).symm
        subst hw
        refine .inl (.inl ⟨p, _, i, _, rfl, ry, ?_, h3, q _ (rp_int k)⟩)
        rcases hs with hs | hs
        · exact .inl (le _ _ rfl hs)
        · exact .inr hs
    | _ => cases e
  | dk ks ds => exact dict _ rx e
  | dt ks ds => exact dict _ rx e
  | _ => cases e
def gIx (f1 f2 : M D) : M D := bnd f1 fun x => bnd f2 fun y => ofO (ixD x y)
theorem qe_ix (hu : X.A.units + 1 < cLine) (ha : QE X κ W a f1) (hb : QE X κ W b f2) (hs : PlainIx b := by exact fun _ _ => rfl) : QE X κ W (.Subscript a b pos) (gIx f1 f2) :=
  PE.imp (pe_ix (ix_Q hu) ha hb hs) fun σ H Q ⟨ρ, Wo, rel, q⟩ => bindR rel q fun v H1 x ρ1 fr1 rel1 rx q1 => bindR rel1 q1 fun u H2 y ρ2 fr2 rel2 ry q2 => by
    cases z : ixD x y with
    | none => rw [z] at q2; exact q2.elim
    | some d =>
      rw [z] at q2
      exact ixD_ok (rx.mono (Ord.fr fr2)) (ry.mono hide_le) (hide_le.r) z fun w rp => te_ok rel2 q2 rp
/-! ### slices -/
def cutL {α : Type} (xs : List α) (lo hi : Option Int) : List α := (xs.drop (HT.sIx xs.length 0 lo)).take (HT.sIx xs.length xs.length hi - HT.sIx xs.length 0 lo)
theorem Rps.cut {K : Fg} {S : Hp} {ds : List D} {vs : List V} (h : Rps K S ds vs) (lo hi : Option Int) : Rps K S (cutL ds lo hi) (cutV vs lo hi) := by
  unfold cutL cutV
  rw [h.length]
  exact (h.drop _).take _
abbrev QO (X : Cx) (κ : Kp) (W : WX) (e : Option Expr) (f : M (Option Int)) : Prop := PO X e (fun σ H Q => ∃ ρ Wo, Rel X.K κ ρ Wo σ H ∧ EvG (fun _ _ a b => a = b) X.K κ W Wo σ H (f ρ) Q)
theorem PO.imp {e : Option Expr} {t t' : TO} (h : PO X e t) (i : ∀ σ H Q, t' σ H Q → t σ H Q) : PO X e t' := ⟨fun p s σ H Q I q => h.run p s σ H Q I (i _ _ _ q)⟩
theorem qo_none : QO X κ W none (ret none) := PO.imp po_none fun σ H Q ⟨ρ, Wo, rel, q⟩ => q none H (.refl _) rel rfl
def gPart (f : M D) : M (Option Int) := bnd f fun d => match d with
  | .int i => ret (some i)
  | _ => stuck
theorem qo_some (h : QE X κ W e f1) : QO X κ W (some e) (gPart f1) := PO.imp (po_some h) fun σ H Q ⟨ρ, Wo, rel, q⟩ => ⟨ρ, Wo, rel, bindG q fun v H1 d ρ1 fr1 rel1 rp q1 => by
  cases d with
  | int i =>
    simp only [Rp] at rp
    exact ⟨i, rp, q1 _ H1 (.refl _) rel1 rfl⟩
  | _ => exact q1.elim⟩
/-- a slice of a text, of a tuple -/
def slD (x : D) (lo hi : Option Int) : Option D := match x with
  | .str s => if s.length ≤ 16777216 then some (.str (cutS s lo hi)) else none
  | .tup ds => some (.tup (cutL ds lo hi))
  | _ => none
def slL (x : D) (lo hi : Option Int) : Option D := match x with
  | .lst ds => some (.lst (cutL ds lo hi))
  | _ => none
def gSl (g : D → Option Int → Option Int → Option D) (f1 : M D) (fl fh : M (Option Int)) : M D := bnd f1 fun x => bnd fl fun lo => bnd fh fun hi => ofO (g x lo hi)
theorem sl_Q : SlR X (fun x lo hi H Q => rSlS x lo hi H Q ∨ rSlA X.K x lo hi H Q) := sl_str.or sl_tupA
theorem qe_sl {lo hi : Option Expr} {fl fh : M (Option Int)} {p2 : Pos} (ha : QE X κ W a f1) (hl : QO X κ W lo fl) (hh : QO X κ W hi fh) : QE X κ W (.Subscript a (.Slice lo hi none p2) pos) (gSl slD f1 fl fh) :=
  PE.imp (pe_slice sl_Q ha hl hh) fun σ H Q ⟨ρ, Wo, rel, q⟩ => bindR rel q fun v H1 x ρ1 fr1 rel1 rx q1 => ⟨ρ1, Wo, rel1, bindG q1 fun l H2 l' ρ2 fr2 rel2 e1 q2 => ⟨ρ2, Wo, rel2, bindG q2 fun h H3 h' ρ3 fr3 rel3 e2 q3 => by
    subst e1 e2
    have rx := (rx.mono (Ord.fr fr2)).mono (Ord.fr fr3)
    cases x with
    | str s =>
      simp only [Rp] at rx
      have q3 : EvG (fun S _ => Rp X.K S) X.K κ W Wo σ H3 (ofO (if s.length ≤ 16777216 then some (D.str (cutS s l' h')) else none) ρ3) Q := q3
      split at q3
      · rename_i hz
        exact .inl ⟨s, rx, hz, te_ok rel3 q3 (rp_str _)⟩
      · exact q3.elim
    | tup ds =>
      simp only [Rp] at rx
      obtain ⟨p, vs, rfl, hp, rs⟩ := rx
      refine .inr ⟨p, vs, rfl, .inl (.inl (hide_some hp).2), fun z => ?_, fun z n hn => ?_⟩
      · refine te_ok rel3 q3 ?_
        simp only [Rp]
        refine ⟨p, vs, rfl, hp, ?_⟩
        have hc := rs.cut l' h'
        have : cutV vs l' h' = vs := by
          unfold cutV
          rw [z.1, z.2, List.drop_zero, Nat.sub_zero, List.take_length]
        rw [this] at hc
        exact hc
      · refine te_new rel3 q3 hn fun e o => ?_
        simp only [Rp]
        exact ⟨n, _, rfl, e, (rs.cut l' h').mono o⟩
    | _ => exact q3.elim⟩⟩
theorem qf_sl {lo hi : Option Expr} {fl fh : M (Option Int)} {p2 : Pos} (ha : QE X κ W a f1) (hl : QO X κ W lo fl) (hh : QO X κ W hi fh) : QF X κ W (.Subscript a (.Slice lo hi none p2) pos) (gSl slL f1 fl fh) :=
  PE.imp (pe_slice sl_list ha hl hh) fun σ H Q ⟨ρ, Wo, rel, q⟩ => ⟨ρ, Wo, rel, (EvG.bindF q).imp fun v H1 ⟨x, ρ1, fr1, rel1, rx, q1⟩ => ⟨ρ1, Wo, rel1, (EvG.bindF q1).imp fun l H2 ⟨l', ρ2, fr2, rel2, e1, q2⟩ => ⟨ρ2, Wo, rel2, (EvG.bindF q2).imp fun h H3 ⟨h', ρ3, fr3, rel3, e2, q3⟩ => by
    subst e1 e2
    have rx := (rx.mono (Ord.fr fr2)).mono (Ord.fr fr3)
    cases x with
    | lst ds =>
      simp only [Rp] at rx
      obtain ⟨p, vs, rfl, hp, rs⟩ := rx
      exact ⟨p, vs, rfl, .inl (.inl (hide_some hp).2), fun n hn => tf_new rel3 q3 hn fun o => (rs.cut l' h').mono o⟩
    | _ => exact q3.elim⟩⟩⟩
end
end Qy

set_option Elab.async false
set_option linter.all false
set_option maxRecDepth 100000
/-! Q8: calls of built-ins. -/
namespace Qy
open PySem PySem.Spec L2
section
variable {X : Cx} {κ : Kp} {W : WX} {pos : Pos} {a b c e : Expr} {es : List Expr} {f1 f2 f3 : M D}
/-! ### len -/
def lenD : D → Option Nat
  | .lst ds => some ds.length
  | .tup ds => some ds.length
  | .str s => if s.length ≤ 16777216 then some s.length else none
  | .dk ks _ => some ks.length
  | .dt ks _ => some ks.length
  | .scr ns => some ns.length
  | .dn n => some n
  | _ => none
def rLenQ (K : Fg) : List V → Hp → VK → Prop := fun xs H Q => (∃ x n, xs = [x] ∧ LenV K x H n ∧ Q (.int n) H) ∨ (∃ p kvs, xs = [.ref p] ∧ Rd H p (.dK kvs) ∧ Q (.int ((kvs.length : Nat) : Int)) H) ∨ (∃ p kvs, xs = [.ref p] ∧ Rd H p (.dT kvs) ∧ Q (.int ((kvs.length : Nat) : Int)) H) ∨ ∃ p n, xs = [.ref p] ∧ H p = some (DnO p n) ∧ Q (.int ((n : Nat) : Int)) H
theorem call_len_raw2 {prog : Program} {w : World} {A : Around} {E : Value → Shared → Prop} {s : Shared} {d : Addr} {es : Array DictEntry} {ep : Nat} {Q : Value → Shared → Prop} (hd : (d == sysModules) = false) (hm : PySem.Heap.DictRaw s.heap d es ep) (hfit : (es.size : Int) < 2 ^ 63)
    (h : Q (.int es.size (s.toks + 1)) { s with toks := s.toks + 1 + 1 }) : wpAny (model prog w) A (call (.builtin "len") [.ref d]) Q E s := by
  refine Calls.call_function_entry kind_len plain_len entry_len (args_len1 _) ?_
  unfold Builtin.«len»
  refine wpAny_bind (m := oneArg "len" _) (wpAny_pure ?_)
  refine wpAny_bind (m := callSpecial? (.ref d) (Str.ofString "__len__")) (wpAny_callSpecial?_slot (name := Str.ofString "__len__") (let ⟨o, ho, hc, _⟩ := hm; ⟨o, ho, hc.1⟩) F.slot_dict_len (call_len_raw hd hm ?_))
  show wpAny _ _ _ _ _ { s with toks := s.toks + 1 }
  refine wpAny_bind (wpAny_holding (wpAny_pure ?_))
  refine wpAny_bind (wpAny_letGo ?_)
  show wpAny _ _ (if (es.size : Int) < 0 then _ else _) _ _ _
  rw [if_neg (by omega)]
  show wpAny _ _ (if (es.size : Int) ≥ 2 ^ 63 then _ else _) _ _ _
  rw [if_neg (by omega)]
  exact wpAny_bind (wpAny_mkInt (wpAny_pure ⟨_, rfl, h⟩))
theorem call_lenQ : CallR X (.builtin "len") (rLenQ X.K) := by
  intro pins s σ H xs us Q I r h
  rcases h with h | ⟨p, kvs, rfl, hp, q⟩ | ⟨p, kvs, rfl, hp, q⟩ | ⟨p, n, rfl, hp, q⟩
  · exact call_len pins s σ H xs us Q I r h
  · obtain ⟨u, rfl, rx⟩ := vals1 r
    obtain rfl : u = .ref p := rx
    exact d_len I hp fun t s' I' => ⟨.int _, H, I', ⟨_, rfl⟩, q⟩
  · obtain ⟨u, rfl, rx⟩ := vals1 r
    obtain rfl : u = .ref p := rx
    obtain ⟨z, hd, ys, rel, dd⟩ := dt_rd I.hok hp
    have hl : kvs.length = ys.length := Paired.length rel
    refine call_len_dictH hd dd (by rw [← hl]; rw [sizeLine_eq] at z; omega) ?_
    rw [← hl]
    exact ⟨.int ((kvs.length : Nat) : Int), H, I.tok _, ⟨_, rfl⟩, q⟩
  · obtain ⟨u, rfl, rx⟩ := vals1 r
    obtain rfl : u = .ref p := rx
    obtain ⟨⟨z, hd, es, ep, hm, rfl⟩, _⟩ := (show ObjOk X.prog X.w H s.heap p (DnO p n) from I.hok p _ hp)
    refine call_len_raw2 hd hm (by rw [sizeLine_eq] at z; omega) ?_
    exact ⟨.int ((es.size : Nat) : Int), H, I.tok _, ⟨_, rfl⟩, q⟩
theorem lenD_ok {K : Fg} {H : Hp} {d : D} {v : V} {n : Nat} {Q : VK} (rp : Rp K H d v) (e : lenD d = some n) (q : Q (.int n) H) : rLenQ K [v] H Q := by
  cases d with
  | lst ds =>
    simp only [Rp] at rp
    obtain ⟨p, vs, rfl, hp, rs⟩ := rp
    cases e
    rw [rs.length] at q
    exact .inl ⟨_, vs.length, rfl, .inl ⟨vs, .inl (.inl hp), rfl⟩, q⟩
  | tup ds =>
    simp only [Rp] at rp
    obtain ⟨p, vs, rfl, hp, rs⟩ := rp
    cases e
    rw [rs.length] at q
    exact .inl ⟨_, vs.length, rfl, .inr ⟨vs, .inl (.inl hp), rfl⟩, q⟩
  | str s =>
    simp only [Rp] at rp
    subst rp
    simp only [lenD] at e
    split at e
    · rename_i hl
      cases e
      exact .inl ⟨_, s.length, rfl, ⟨hl, rfl⟩, q⟩
    · cases e
  | dk ks ds =>
    simp only [Rp] at rp
    obtain ⟨p, kvs, rfl, hp, rfl, rs⟩ := rp
    cases e
    rw [List.length_map] at q
    exact .inr (.inl ⟨p, kvs, rfl, hp, q⟩)
  | dt ks ds =>
    simp only [Rp] at rp
    obtain ⟨p, kvs, rfl, hp, rfl, rs⟩ := rp
    cases e
    rw [List.length_map] at q
    exact .inr (.inr (.inl ⟨p, kvs, rfl, hp, q⟩))
  | scr ns =>
    simp only [Rp] at rp
    obtain ⟨p, rfl, hs⟩ := rp
    cases e
    exact .inl ⟨_, ns.length, rfl, .inl ⟨_, hs, by rw [List.length_map]⟩, q⟩
  | dn n =>
    simp only [Rp] at rp
    obtain ⟨p, rfl, hp⟩ := rp
    cases e
    exact .inr (.inr (.inr ⟨p, _, rfl, hp, q⟩))
  | _ => cases e
/-- f(x), by a function of the data -/
def gC1 (g : D → Option D) (f : M D) : M D := bnd f fun x => ofO (g x)
theorem one_rd {f : M D} {t : List V → Hp → VK → Prop} {k : D → M D} (ha : QR X κ W a f) {K : Fg} {σ : L2.St} {H : Hp} {Q : VK} {ρ : Rho} {Wo : Addr → Prop} (rel : Rel X.K κ ρ Wo σ H) (q : EvG (fun S _ => Rp X.K S) X.K κ W Wo σ H (bnd f k ρ) Q)
    (i : ∀ v H1 d ρ1, Rel X.K κ ρ1 Wo σ H1 → Rp X.K H1 d v → EvG (fun S _ => Rp X.K S) X.K κ W Wo σ H1 (k d ρ1) Q → t [v] H1 Q) : tCons (trOf X.K κ W f) tNil σ H (fun vs H1 => t vs H1 Q) :=
  ⟨ρ, Wo, rel, bindG q fun v H1 d ρ1 fr1 rel1 rp q1 => i v H1 d ρ1 rel1 rp q1⟩
def lenV (d : D) : Option D := (lenD d).map fun n => .int n
variable {x : Str} {p : Pos}
theorem qe_len {f : M D} (ha : QR X κ W a f) (hm : X.mg "len" = none) (hg : Gl X "len" := by rfl) (he : starEach (a :: []) X.env = (false, eval a X.env) :: starEach [] X.env := by rfl) (hpl : (backTo pos (starEach [] X.env)).any (·.1) = false := by rfl) :
    QE X κ W (.Call (.Name "len" p) [a] [] pos) (gC1 lenV f) :=
  PE.imp (pe_callB call_lenQ hg hm PySem.boot_len (pa_cons ha pa_nil he) (by decide) (by decide) he hpl) fun σ H Q ⟨ρ, Wo, rel, q⟩ => one_rd (K := X.K) (t := rLenQ X.K) ha rel q fun v H1 d ρ1 rel1 rp q1 => by
    cases z : lenD d with
    | none => rw [show lenV d = none by unfold lenV; rw [z]; rfl] at q1; exact q1.elim
    | some n =>
      rw [show lenV d = some (.int n) by unfold lenV; rw [z]; rfl] at q1
      exact lenD_ok rp z (te_ok rel1 q1 (rp_int _))
/-! ### isinstance of built-in classes -/
def tyD : D → Option String
  | .non => some "NoneType"
  | .bl _ => some "bool"
  | .int _ => some "int"
  | .str _ => some "str"
  | .tup _ => some "tuple"
  | .lst _ => some "list"
  | .dk _ _ => some "dict"
  | .dt _ _ => some "dict"
  | .dn _ => some "dict"
  | _ => none
/-- what isinstance(x, T) answers -/
def isiD (T : String) : D → Option Bool
  | .non => some false
  | .bl _ => some (T == "bool" || T == "int")
  | .int _ => some (T == "int")
  | .str _ => some (T == "str")
  | .tup _ => some (T == "tuple")
  | .lst _ => some (T == "list")
  | .dk _ _ => some (T == "dict")
  | .dt _ _ => some (T == "dict")
  | .dn _ => some (T == "dict")
  | _ => none
def goodT (T : String) : Bool := T == "bool" || T == "int" || T == "str" || T == "tuple" || T == "list" || T == "dict"
theorem isi_kit {T : String} (h : goodT T = true) {d : D} {b : Bool} (e : isiD T d = some b) : ∃ t, tyD d = some t ∧ kitB t T = some b := by
  have hT : T = "bool" ∨ T = "int" ∨ T = "str" ∨ T = "tuple" ∨ T = "list" ∨ T = "dict" := by
    unfold goodT at h
    simp only [Bool.or_eq_true, beq_iff_eq] at h
    rcases h with ((((h | h) | h) | h) | h) | h <;> simp [h]
  rcases hT with rfl | rfl | rfl | rfl | rfl | rfl <;> cases d <;> first
    | (cases e; done)
    | (cases e; exact ⟨_, rfl, by decide +kernel⟩)
/-- a value's type: dicts with tuples for keys while they are locked, too -/
def TyQ (K : Fg) (H : Hp) (x : V) (t : Value) : Prop := TyX K H x t ∨ (∃ a o kvs, x = .ref a ∧ H a = some (.frz o (.dT kvs)) ∧ t = .type "dict") ∨ ∃ a n, x = .ref a ∧ H a = some (DnO a n) ∧ t = .type "dict"
def rIsiQ (K : Fg) : List V → Hp → VK → Prop := fun xs H Q => ∃ (x : V) (T t : String) (b : Bool), xs = [x, .ty T] ∧ TyQ K H x (.type t) ∧ kitB t T = some b ∧ Q (.bl b) H
theorem call_isiQ : CallR X (.builtin "isinstance") (rIsiQ X.K) := by
  intro pins s σ H xs us Q I r h
  obtain ⟨x, T, t, b, rfl, ty, e, q⟩ := h
  rcases ty with ty | ⟨a, o, kvs, rfl, ho, et⟩ | ⟨a, n, rfl, ho, et⟩
  · exact call_isi pins s σ H _ us Q I r ⟨x, .ty T, .type t, .type T, b, rfl, .ty T, ty, kit_ty e, q⟩
  · cases et
    obtain ⟨u1, u2, rfl, r1, r2⟩ := vals2 r
    cases r1
    cases (show u2 = Value.type T from r2)
    obtain ⟨_, _, _, xs, _, ob, es, ep, h1, h2, _⟩ := (show ObjOk X.prog X.w H s.heap a (.frz o (.dT kvs)) from I.hok a _ ho)
    exact PySem.W.kia_one PySem.W.kitx_dict I.kIn ⟨ob, h1, h2.1⟩ (kit_ty e) (fun z => nomatch z) fun tk => ⟨.bl b, H, I.tok tk, rfl, q⟩
  · cases et
    obtain ⟨u1, u2, rfl, r1, r2⟩ := vals2 r
    cases r1
    cases (show u2 = Value.type T from r2)
    obtain ⟨⟨z, hd, es, ep, ⟨ob, h1, h2, _⟩, _⟩, _⟩ := (show ObjOk X.prog X.w H s.heap a (DnO a n) from I.hok a _ ho)
    exact PySem.W.kia_one PySem.W.kitx_dict I.kIn ⟨ob, h1, h2.1⟩ (kit_ty e) (fun z => nomatch z) fun tk => ⟨.bl b, H, I.tok tk, rfl, q⟩
theorem tyD_ok {K : Fg} {H : Hp} {d : D} {v : V} {t : String} (rp : Rp K H d v) (e : tyD d = some t) : TyQ K H v (.type t) := by
  cases d with
  | non => simp only [Rp] at rp; subst rp; cases e; exact .inl (.base .non)
  | bl b => simp only [Rp] at rp; subst rp; cases e; exact .inl (.base (.bl b))
  | int i => simp only [Rp] at rp; subst rp; cases e; exact .inl (.base (.int i))
  | str s => simp only [Rp] at rp; subst rp; cases e; exact .inl (.base (.str s))
  | tup ds => simp only [Rp] at rp; obtain ⟨p, vs, rfl, hp, _⟩ := rp; cases e; exact .inl (.base (.tup hp))
  | lst ds => simp only [Rp] at rp; obtain ⟨p, vs, rfl, hp, _⟩ := rp; cases e; exact .inl (.base (.lst hp))
  | dk ks ds =>
    simp only [Rp] at rp
    obtain ⟨p, kvs, rfl, hp, _⟩ := rp
    cases e
    rcases hp with hp | ⟨o, hp⟩
    · exact .inl (.base (.dK hp))
    · exact .inl (.fDict hp)
  | dt ks ds =>
    simp only [Rp] at rp
    obtain ⟨p, kvs, rfl, hp, _⟩ := rp
    cases e
    rcases hp with hp | ⟨o, hp⟩
    · exact .inl (.base (.dT hp))
    · exact .inr (.inl ⟨p, o, kvs, rfl, hp, rfl⟩)
  | dn n =>
    simp only [Rp] at rp
    obtain ⟨p, rfl, hp⟩ := rp
    cases e
    exact .inr (.inr ⟨p, n, rfl, hp, rfl⟩)
  | _ => cases e
def isiV (T : String) (d : D) : Option D := (isiD T d).map D.bl
theorem qe_isi (T : String) {f : M D} {xT : Str} {p2 : Pos} (ha : QR X κ W a f) (hm : X.mg "isinstance" = none) (hmT : X.mg xT = none) (hvT : bootBuiltins xT = some (.type T) := by decide +kernel) (hT : goodT T = true := by decide)
    (hg : Gl X "isinstance" := by rfl) (hgT : Gl X xT := by rfl) (hn : xT ≠ "__name__" := by decide) (hdT : (xT == ("__debug__" : Str)) = false := by decide)
    (he2 : starEach (.Name xT p2 :: []) X.env = (false, eval (.Name xT p2) X.env) :: starEach [] X.env := by rfl)
    (he : starEach (a :: [.Name xT p2]) X.env = (false, eval a X.env) :: starEach [.Name xT p2] X.env := by rfl) (hpl : (backTo pos (starEach [.Name xT p2] X.env)).any (·.1) = false := by rfl) :
    QE X κ W (.Call (.Name "isinstance" p) [a, .Name xT p2] [] pos) (gC1 (isiV T) f) :=
  PE.imp (pe_callB call_isiQ hg hm (by decide +kernel) (pa_cons ha (pa_cons (pe_bltn (v := .ty T) hgT hmT hvT rfl hn hdT) pa_nil he2) he) (by decide) (by decide) he hpl) fun σ H Q ⟨ρ, Wo, rel, q⟩ =>
    ⟨ρ, Wo, rel, bindG q fun v H1 d ρ1 fr1 rel1 rp q1 => by
      cases z : isiD T d with
      | none => rw [show isiV T d = none by unfold isiV; rw [z]; rfl] at q1; exact q1.elim
      | some k =>
        rw [show isiV T d = some (.bl k) by unfold isiV; rw [z]; rfl] at q1
        obtain ⟨t, e1, e2⟩ := isi_kit hT z
        exact ⟨v, T, t, k, rfl, tyD_ok rp e1, e2, te_ok rel1 q1 (rp_bl k)⟩⟩
/-! ### int, list, tuple -/
def intV : D → Option D
  | .int i => some (.int i)
  | .bl b => some (.int (if b then 1 else 0))
  | _ => none
theorem qe_int1 {f : M D} (ha : QR X κ W a f) (hm : X.mg "int" = none) (hg : Gl X "int" := by rfl) (he : starEach (a :: []) X.env = (false, eval a X.env) :: starEach [] X.env := by rfl) (hpl : (backTo pos (starEach [] X.env)).any (·.1) = false := by rfl) :
    QE X κ W (.Call (.Name "int" p) [a] [] pos) (gC1 intV f) :=
  PE.imp (pe_callTy call_int1 hg hm (by decide +kernel) (pa_cons ha pa_nil he) (by decide) (by decide) he hpl) fun σ H Q ⟨ρ, Wo, rel, q⟩ => ⟨ρ, Wo, rel, bindG q fun v H1 d ρ1 fr1 rel1 rp q1 => by
    cases d with
    | int i => simp only [Rp] at rp; subst rp; exact .inl ⟨i, rfl, te_ok rel1 q1 (rp_int _)⟩
    | bl b => simp only [Rp] at rp; subst rp; exact .inr ⟨b, rfl, te_ok rel1 q1 (rp_int _)⟩
    | _ => exact q1.elim⟩
end
end Qy

set_option Elab.async false
set_option linter.all false
set_option maxRecDepth 100000
/-! Q9: list, tuple, sorted, all, any, sum. -/
namespace Qy
open PySem PySem.Spec L2
def kD : Key → D
  | .inl i => .int i
  | .inr s => .str s
def kTD (ks : List Key) : D := .tup (ks.map kD)
theorem rp_k {K : Fg} {S : Hp} (k : Key) : Rp K S (kD k) (kV k) := by cases k <;> simp only [kD, kV, Rp]
theorem rps_k {K : Fg} {S : Hp} : ∀ ks : List Key, Rps K S (ks.map kD) (ks.map kV)
  | [] => rps_nil
  | k :: ks => rps_cons (rp_k k) (rps_k ks)
theorem imm_k (k : Key) : imm (kD k) = true := by cases k <;> simp only [kD, imm]
theorem imms_map {α : Type} (f : α → D) (h : ∀ a, imm (f a) = true) : ∀ l : List α, imms (l.map f) = true
  | [] => by simp only [List.map_nil, imms]
  | a :: l => by simp only [List.map_cons, imms, h a, imms_map f h l, Bool.and_self]
theorem imm_kT (ks : List Key) : imm (kTD ks) = true := by simp only [kTD, imm, imms_map _ imm_k]
section
variable {X : Cx} {κ : Kp} {W : WX} {pos : Pos} {a b c e : Expr} {es : List Expr} {f f1 f2 f3 : M D} {x : Str} {p : Pos}
/-- what list(x) holds -/
def listD : D → Option (List D)
  | .lst ds => some ds
  | .tup ds => some ds
  | .dk ks _ => some (ks.map kD)
  | .dt ks _ => some (ks.map kTD)
  | _ => none
def rListQ (K : Fg) : List V → Hp → VK → Prop := fun xs H Q => (∃ p ys, xs = [.ref p] ∧ (SqL K H p ys ∨ SqT K H p ys) ∧ ∀ l, H l = none → Q (.ref l) (upd H l (.lst ys))) ∨
  (∃ p kvs, xs = [.ref p] ∧ Rd H p (.dK kvs) ∧ ∀ q, H q = none → Q (.ref q) (upd H q (.lst (kvs.map fun kv => kV kv.1)))) ∨ (∃ d kvs, xs = [V.ref d] ∧ Rd H d (.dT kvs) ∧ ∀ p bs, H p = none → IsKeys H kvs bs → Q (.ref p) (upd H p (.lst (bs.map V.ref))))
theorem call_listQ (hc : X.calm = true) : CallR X (.type "list") (rListQ X.K) := by
  intro pins s σ H xs us Q I r h
  rcases h with h | h | h
  · exact call_list_of pins s σ H xs us Q I r h
  · obtain ⟨p, kvs, e, hk, q⟩ := h
    subst e
    obtain ⟨u, eu, rx⟩ := vals1 r
    subst eu
    obtain rfl : u = Value.ref p := rx
    obtain ⟨z, lo, vs, rk, hd⟩ := (show ObjOk X.prog X.w H s.heap p (.dK kvs) from hk.ok I.hok)
    obtain ⟨ep, hat⟩ := hd.dictAt
    have hl : kvs.length = vs.length := Paired.length rk
    refine PySem.W.kdl_call (PySem.W.kdl_dict (knd := mixKind X.prog X.w) (kvs := vs) (ep := ep) lo) (I.ok.hd hc) hat (by rw [← hl]; exact z) fun h' tk acc' c' hkeep hS hacc => ?_
    refine ⟨.ref s.heap.objs.size, upd H s.heap.objs.size (.lst (kvs.map fun kv => kV kv.1)), I.laid hkeep (Nat.le_refl _) (show ObjOk X.prog X.w _ _ _ (.lst (kvs.map fun kv => kV kv.1)) from ⟨?_, acc'.toList, c', ?_, ?_⟩), rfl, q _ (I.hok.fresh (Nat.le_refl _))⟩
    · rw [List.length_map]; exact z
    · have el : acc'.toList.length = acc'.size := by simp
      refine vals_of_at (by rw [List.length_map, el, hacc.1, hl]) fun j x w h1 h2 => ?_
      obtain ⟨k, y, hky, hi⟩ := hacc.2 j w (by rw [← Array.getElem?_toList]; exact h2)
      have e1 : (kvs.map (·.1))[j]? = some k := by
        rw [KV.keys rk, List.getElem?_map, hky] <;> rfl
      have e2 : (kvs.map fun kv => kV kv.1)[j]? = some (kV k) := by
        have e3 : (kvs.map fun kv => kV kv.1) = (kvs.map (·.1)).map kV := by rw [List.map_map] <;> rfl
        rw [e3, List.getElem?_map, e1] <;> rfl
      rw [e2] at h1
      cases h1
      exact keyIs_rel hi
    · rw [Array.toArray_toList]; exact hS
  · exact call_list_dT hc pins s σ H xs us Q I r h
theorem rps_keysT {K : Fg} {H : Hp} : ∀ {kvs : List (List Key × V)} {bs : List Addr}, IsKeys H kvs bs → Rps K H ((kvs.map (·.1)).map kTD) (bs.map V.ref)
  | [], _, .nil => rps_nil
  | _ :: _, _, .cons r t => rps_cons (by simp only [kTD, Rp]; exact ⟨_, _, rfl, r, rps_k _⟩) (rps_keysT t)
theorem listD_ok {K : Fg} {H : Hp} {d : D} {v : V} {ds : List D} {Q : VK} (rp : Rp K H d v) (e : listD d = some ds) (q : ∀ vs, Rps K H ds vs → ∀ l, H l = none → Q (.ref l) (upd H l (.lst vs))) : rListQ K [v] H Q := by
  cases d with
  | lst ds => simp only [Rp] at rp; obtain ⟨p, vs, rfl, hp, rs⟩ := rp; cases e; exact .inl ⟨p, vs, rfl, .inl (.inl (.inl hp)), q vs rs⟩
  | tup ds => simp only [Rp] at rp; obtain ⟨p, vs, rfl, hp, rs⟩ := rp; cases e; exact .inl ⟨p, vs, rfl, .inr (.inl (.inl hp)), q vs rs⟩
  | dk ks ds =>
    simp only [Rp] at rp
    obtain ⟨p, kvs, rfl, hp, rfl, _⟩ := rp
    cases e
    refine .inr (.inl ⟨p, kvs, rfl, hp, q _ ?_⟩)
    have := rps_k (K := K) (S := H) (kvs.map (·.1))
    rw [List.map_map, List.map_map] at this
    rw [List.map_map]
    exact this
  | dt ks ds =>
    simp only [Rp] at rp
    obtain ⟨p, kvs, rfl, hp, rfl, _⟩ := rp
    cases e
    exact .inr (.inr ⟨p, kvs, rfl, hp, fun l bs hl hk => q _ (rps_keysT hk) l hl⟩)
  | _ => cases e
def gListOf (f : M D) : M D := bnd f fun d => ofO ((listD d).map D.lst)
theorem listD_view {K : Fg} {ρ : Rho} {Wo : Addr → Prop} {σ : L2.St} {H : Hp} {d : D} {v : V} {ds : List D} (rel : Rel K κ ρ Wo σ H) (rp : Rp K (vw κ Wo H) d v) (e : listD d = some ds) : (∃ p vs, v = .ref p ∧ (H p = some (.lst vs) ∨ H p = some (.tup vs)) ∧ Rps K (vw κ Wo H) ds vs) ∨ imms ds = true := by
  cases d with
  | lst ds => simp only [Rp] at rp; obtain ⟨p, vs, rfl, hp, rs⟩ := rp; cases e; exact .inl ⟨p, vs, rfl, .inl (hide_some hp).2, rs⟩
  | tup ds => simp only [Rp] at rp; obtain ⟨p, vs, rfl, hp, rs⟩ := rp; cases e; exact .inl ⟨p, vs, rfl, .inr (hide_some hp).2, rs⟩
  | dk ks ds => cases e; exact .inr (imms_map _ imm_k _)
  | dt ks ds => cases e; exact .inr (imms_map _ imm_kT _)
  | _ => cases e
theorem qf_listOf (ha : QE X κ W a f) (hm : X.mg "list" = none) (hc : X.calm = true := by rfl) (hg : Gl X "list" := by rfl) (he : starEach (a :: []) X.env = (false, eval a X.env) :: starEach [] X.env := by rfl) (hpl : (backTo pos (starEach [] X.env)).any (·.1) = false := by rfl) :
    QF X κ W (.Call (.Name "list" p) [a] [] pos) (gListOf f) :=
  PE.imp (pe_callTy (call_listQ hc) hg hm (by decide +kernel) (pa_cons ha pa_nil he) (by decide) (by decide) he hpl) fun σ H Q ⟨ρ, Wo, rel, q⟩ => ⟨ρ, Wo, rel, (EvG.bindF q).imp fun v H1 ⟨d, ρ1, fr1, rel1, rp, q1⟩ => by
    cases z : listD d with
    | none => rw [z] at q1; exact q1.elim
    | some ds =>
      rw [z] at q1
      rcases listD_view rel1 rp z with ⟨p, vs, rfl, hp, rs⟩ | hi
      · refine .inl ⟨p, vs, rfl, ?_, fun l hl => tf_new rel1 q1 hl fun o => rs.mono o⟩
        rcases hp with hp | hp
        · exact .inl (.inl (.inl hp))
        · exact .inr (.inl (.inl hp))
      · exact listD_ok (rp.mono hide_le) z fun vs rs l hl => tf_new rel1 q1 hl fun o => (rel1.seens hi rs).mono o⟩
/-! tuple -/
def tupD : D → Option (List D)
  | .lst ds => some ds
  | .tup ds => some ds
  | _ => none
def gTupOf (f : M D) : M D := bnd f fun d => ofO ((tupD d).map D.tup)
theorem qe_tupOf (ha : QE X κ W a f) (hm : X.mg "tuple" = none) (hg : Gl X "tuple" := by rfl) (he : starEach (a :: []) X.env = (false, eval a X.env) :: starEach [] X.env := by rfl) (hpl : (backTo pos (starEach [] X.env)).any (·.1) = false := by rfl) :
    QE X κ W (.Call (.Name "tuple" p) [a] [] pos) (gTupOf f) :=
  PE.imp (pe_callTy call_tuple_of hg hm (by decide +kernel) (pa_cons ha pa_nil he) (by decide) (by decide) he hpl) fun σ H Q ⟨ρ, Wo, rel, q⟩ => ⟨ρ, Wo, rel, bindG q fun v H1 d ρ1 fr1 rel1 rp q1 => by
    cases d with
    | lst ds =>
      simp only [Rp] at rp
      obtain ⟨p, vs, rfl, hp, rs⟩ := rp
      refine ⟨p, vs, rfl, .inl ⟨.inl (.inl (hide_some hp).2), fun l hl => te_new rel1 q1 hl fun e o => ?_⟩⟩
      simp only [Rp]
      exact ⟨l, vs, rfl, e, rs.mono o⟩
    | tup ds =>
      have rp0 := rp
      simp only [Rp] at rp
      obtain ⟨p, vs, rfl, hp, rs⟩ := rp
      exact ⟨p, vs, rfl, .inr ⟨.inl (.inl (hide_some hp).2), te_ok rel1 q1 rp0⟩⟩
    | _ => exact q1.elim⟩
/-! ### sorted -/
def isTu : D → Bool
  | .tup (_ :: _) => true
  | _ => false
def noTu : D → Bool
  | .tup _ => false
  | .non => false
  | _ => true
/-- may these be sorted -/
def srtOk (ds : List D) : Bool := (ds.all fun d => ds.all fun d' => PySem.W.alike (toP d) (toP d')) && ((ds.all isTu || ds.all noTu) && ((ds.all fun d => imm d && okP d) && decide (ds.length ≤ 16777216)))
noncomputable def srt (ds : List D) : List D := ds.mergeSort (PySem.W.dataLe false toP)
def rSrtQ (K : Fg) : List V → Hp → VK → Prop := fun xs H Q => ∃ (a : Addr) (ds : List D) (vs : List V), xs = [.ref a] ∧ SqL K H a vs ∧ Rps K H ds vs ∧ srtOk ds = true ∧ ∀ l ws, H l = none → Rps K H (srt ds) ws → Q (.ref l) (upd H l (.lst ws))
theorem Rps.each {K : Fg} {H : Hp} : ∀ {ds : List D} {vs : List V} {us : List Value}, Rps K H ds vs → Vals vs us → PySem.W.EachIs (fun (u : Value) (z : D × V) => RelV z.2 u) us (ds.zip vs)
  | [], vs, us, h, r => by simp only [Rps] at h; subst h; cases r; exact .nil
  | d :: ds, vs, us, h, r => by
    simp only [Rps] at h
    obtain ⟨v, w, rfl, q, z⟩ := h
    cases r with
    | cons r1 r2 => exact .cons r1 (Rps.each z r2)
theorem vals_each : ∀ {zs : List (D × V)} {us : List Value}, PySem.W.EachIs (fun (u : Value) (z : D × V) => RelV z.2 u) us zs → Vals (zs.map Prod.snd) us
  | [], _, .nil => .nil
  | _ :: _, _, .cons h t => .cons h (vals_each t)
theorem rps_zip {K : Fg} {H : Hp} : ∀ {ds : List D} {vs : List V}, Rps K H ds vs → ∀ z ∈ ds.zip vs, Rp K H z.1 z.2
  | [], _, _, z, hz => by simp at hz
  | d :: ds, vs, h, z, hz => by
    simp only [Rps] at h
    obtain ⟨v, w, rfl, q, t⟩ := h
    rw [List.zip_cons_cons] at hz
    rcases List.mem_cons.mp hz with rfl | hz
    · exact q
    · exact rps_zip t z hz
theorem rps_of_zip {K : Fg} {H : Hp} : ∀ {zs : List (D × V)}, (∀ z ∈ zs, Rp K H z.1 z.2) → Rps K H (zs.map Prod.fst) (zs.map Prod.snd)
  | [], _ => rps_nil
  | z :: zs, h => rps_cons (h z List.mem_cons_self) (rps_of_zip fun y hy => h y (List.mem_cons_of_mem _ hy))
theorem zip_fst : ∀ {ds : List D} {vs : List V}, ds.length = vs.length → (ds.zip vs).map Prod.fst = ds
  | [], _, _ => by simp
  | d :: ds, [], h => by simp at h
  | d :: ds, v :: vs, h => by simp only [List.zip_cons_cons, List.map_cons]; rw [zip_fst (by simpa using h)]
theorem depth_ok {d : D} (h : okP d = true) : (toP d).depth ≤ 64 := SeqAt.depth_of_shaped h
theorem call_srtQ (hu : X.A.units + 70 < cLine) : CallR X (.builtin "sorted") (rSrtQ X.K) := by
  intro pins s σ H xs us Q I r h
  obtain ⟨a, ds, vs, rfl, hs, rs, ok, q⟩ := h
  obtain ⟨u, rfl, rx⟩ := vals1 r
  obtain rfl : u = .ref a := rx
  obtain ⟨its, rv, hl, hz⟩ := I.list hs
  unfold srtOk at ok
  simp only [Bool.and_eq_true, decide_eq_true_eq] at ok
  obtain ⟨o1, o2, o3, o4⟩ := ok
  have hlen := rs.length
  have e := rs.each rv
  have fst := zip_fst hlen
  have map_eq : (ds.zip vs).map (fun z : D × V => toP z.1) = ds.map toP := by
    rw [show (fun z : D × V => toP z.1) = toP ∘ Prod.fst from rfl, ← List.map_map, fst]
  have er : PySem.W.EachIs (fun (u : Value) (z : D × V) => ∃ as, Reads s.heap u (toP z.1) as) its (ds.zip vs) := by
    have go : ∀ {ds : List D} {vs : List V} {us : List Value}, Rps X.K H ds vs → Vals vs us → (∀ d ∈ ds, okP d = true) → PySem.W.EachIs (fun (u : Value) (z : D × V) => ∃ as, Reads s.heap u (toP z.1) as) us (ds.zip vs) := by
      intro ds
      induction ds with
      | nil => intro vs us h r _; simp only [Rps] at h; subst h; cases r; exact .nil
      | cons d ds ih =>
        intro vs us h r hok
        simp only [Rps] at h
        obtain ⟨v, w, rfl, q, z⟩ := h
        cases r with
        | cons r1 r2 => exact .cons (Dp.reads I _ _ _ (dp_of (hok d List.mem_cons_self) q) r1) (ih z r2 fun d hd => hok d (List.mem_cons_of_mem _ hd))
    exact go rs rv fun d hd => by
      have := List.all_eq_true.mp o3 d hd
      simp only [Bool.and_eq_true] at this
      exact this.2
  refine PySem.W.sorted_data (enc := fun z : D × V => toP z.1) hl.isList e er ?_ ?_ (by rw [List.length_zip, ← hlen, Nat.min_self]; exact o4) (fun z hz => ?_) fun out lo eo => ?_
  · rw [map_eq]
    intro x hx y hy
    obtain ⟨d, hd, rfl⟩ := List.mem_map.mp hx
    obtain ⟨d', hd', rfl⟩ := List.mem_map.mp hy
    exact List.all_eq_true.mp (List.all_eq_true.mp o1 d hd) d' hd'
  · rw [map_eq]
    simp only [Bool.or_eq_true] at o2
    rcases o2 with o2 | o2
    · refine .inl fun x hx => ?_
      obtain ⟨d, hd, rfl⟩ := List.mem_map.mp hx
      have t := List.all_eq_true.mp o2 d hd
      cases d with
      | tup xs =>
        cases xs with
        | nil => cases t
        | cons y ys => exact ⟨toP y, toPs ys, by simp only [toP, toPs]⟩
      | _ => cases t
    · refine .inr fun x hx => ?_
      obtain ⟨d, hd, rfl⟩ := List.mem_map.mp hx
      have t := List.all_eq_true.mp o2 d hd
      cases d with
      | tup xs => cases t
      | non => cases t
      | _ => simp [toP]
  · have hd : z.1 ∈ ds := (List.of_mem_zip hz).1
    have t := List.all_eq_true.mp o3 _ hd
    simp only [Bool.and_eq_true] at t
    have := depth_ok t.2
    show X.A.units + 2 + (toP z.1).depth < cLine
    omega
  · obtain ⟨ep, he'⟩ := PyProof.Rows.sortedAll_at s.heap its (List.toArray out)
    have rps : Rps X.K H (srt ds) (((ds.zip vs).mergeSort (PySem.W.dataLe false fun z : D × V => toP z.1)).map Prod.snd) := by
      have h1 : srt ds = ((ds.zip vs).mergeSort (PySem.W.dataLe false fun z : D × V => toP z.1)).map Prod.fst := by
        unfold srt
        rw [List.map_mergeSort (r := PySem.W.dataLe false fun z : D × V => toP z.1) (s := PySem.W.dataLe false toP) (f := Prod.fst) (fun _ _ _ _ => rfl), fst]
      rw [h1]
      exact rps_of_zip fun z hz => rps_zip rs z ((List.mergeSort_perm _ _).mem_iff.mp hz)
    have hlen2 : (((ds.zip vs).mergeSort (PySem.W.dataLe false fun z : D × V => toP z.1)).map Prod.snd).length ≤ sizeLine := by
      rw [List.length_map, List.length_mergeSort, List.length_zip, ← hlen, Nat.min_self]; exact o4
    exact ⟨.ref _, upd H (s.heap.objs.size + 1) (.lst _), I.laid (t' := s.toks) (fun _ _ => PyProof.Rows.sortedAll_old) (Nat.le_succ _) ⟨hlen2, out, ep, vals_each eo, he'⟩, rfl, q _ _ (I.hok.fresh (Nat.le_succ _)) rps⟩
noncomputable def sortV : D → Option D
  | .lst ds => if srtOk ds = true then some (.lst (srt ds)) else none
  | _ => none
theorem imms_iff : ∀ ds : List D, imms ds = ds.all imm
  | [] => by simp only [imms, List.all_nil]
  | d :: ds => by simp only [imms, List.all_cons, imms_iff ds]
theorem imms_srt {ds : List D} (h : srtOk ds = true) : imms (srt ds) = true := by
  unfold srtOk at h
  simp only [Bool.and_eq_true] at h
  rw [imms_iff]
  refine List.all_eq_true.mpr fun d hd => ?_
  have hd' : d ∈ ds := (List.mergeSort_perm _ _).mem_iff.mp hd
  have := List.all_eq_true.mp h.2.2.1 d hd'
  simp only [Bool.and_eq_true] at this
  exact this.1
theorem qf_sorted (hu : X.A.units + 70 < cLine) (ha : QR X κ W a f) (hm : X.mg "sorted" = none) (hg : Gl X "sorted" := by rfl) (he : starEach (a :: []) X.env = (false, eval a X.env) :: starEach [] X.env := by rfl) (hpl : (backTo pos (starEach [] X.env)).any (·.1) = false := by rfl) :
    QF X κ W (.Call (.Name "sorted" p) [a] [] pos) (gC1 sortV f) :=
  PE.imp (pe_callB (call_srtQ hu) hg hm (by decide +kernel) (pa_cons ha pa_nil he) (by decide) (by decide) he hpl) fun σ H Q ⟨ρ, Wo, rel, q⟩ => ⟨ρ, Wo, rel, (EvG.bindF q).imp fun v H1 ⟨d, ρ1, fr1, rel1, rp, q1⟩ => by
    cases d with
    | lst ds =>
      by_cases ok : srtOk ds = true
      · rw [show sortV (.lst ds) = some (.lst (srt ds)) from if_pos ok] at q1
        simp only [Rp] at rp
        obtain ⟨p, vs, rfl, hp, rs⟩ := rp
        exact ⟨p, ds, vs, rfl, .inl (.inl hp), rs, ok, fun l ws hl rw' => tf_new rel1 q1 hl fun o => (rel1.seens (imms_srt ok) rw').mono o⟩
      · rw [show sortV (.lst ds) = none from if_neg ok] at q1
        exact q1.elim
    | _ => exact q1.elim⟩
/-! ### all, any -/
def blsD : List D → Option (List Bool)
  | [] => some []
  | .bl b :: r => (blsD r).map fun bs => b :: bs
  | _ => none
theorem blsD_ok {K : Fg} {S : Hp} : ∀ {ds : List D} {vs : List V} {bs : List Bool}, blsD ds = some bs → Rps K S ds vs → vs = bs.map V.bl
  | [], vs, bs, e, h => by simp only [Rps] at h; cases e; exact h
  | .bl b :: r, vs, bs, e, h => by
    simp only [Rps] at h
    obtain ⟨v, w, rfl, q, z⟩ := h
    simp only [Rp] at q
    subst q
    have e' : (blsD r).map (fun bs => b :: bs) = some bs := e
    cases hr : blsD r with
    | none => rw [hr] at e'; cases e'
    | some cs => rw [hr] at e'; cases e'; rw [List.map_cons, blsD_ok hr z]
  | .non :: _, _, _, e, _ => by cases e
  | .int _ :: _, _, _, e, _ => by cases e
  | .str _ :: _, _, _, e, _ => by cases e
  | .tup _ :: _, _, _, e, _ => by cases e
  | .lst _ :: _, _, _, e, _ => by cases e
  | .dk _ _ :: _, _, _, e, _ => by cases e
  | .dt _ _ :: _, _, _, e, _ => by cases e
  | .obj _ _ _ :: _, _, _, e, _ => by cases e
  | .scr _ :: _, _, _, e, _ => by cases e
def allV : D → Option D
  | .lst ds => (blsD ds).map fun bs => .bl (bs.all id)
  | _ => none
theorem qe_all (ha : QR X κ W a f) (hm : X.mg "all" = none) (hc : X.calm = true := by rfl) (hg : Gl X "all" := by rfl) (he : starEach (a :: []) X.env = (false, eval a X.env) :: starEach [] X.env := by rfl) (hpl : (backTo pos (starEach [] X.env)).any (·.1) = false := by rfl) :
    QE X κ W (.Call (.Name "all" p) [a] [] pos) (gC1 allV f) :=
  PE.imp (pe_callB (cr_all hc) hg hm (by decide +kernel) (pa_cons ha pa_nil he) (by decide) (by decide) he hpl) fun σ H Q ⟨ρ, Wo, rel, q⟩ => ⟨ρ, Wo, rel, bindG q fun v H1 d ρ1 fr1 rel1 rp q1 => by
    cases d with
    | lst ds =>
      simp only [Rp] at rp
      obtain ⟨p, vs, rfl, hp, rs⟩ := rp
      cases hb : blsD ds with
      | none => rw [show allV (.lst ds) = none by simp only [allV, hb, Option.map_none]] at q1; exact q1.elim
      | some bs =>
        rw [show allV (.lst ds) = some (.bl (bs.all id)) by simp only [allV, hb, Option.map_some]] at q1
        exact ⟨p, bs, rfl, by rw [← blsD_ok hb rs]; exact .inl (.inl hp), te_ok rel1 q1 (rp_bl _)⟩
    | _ => exact q1.elim⟩
end
end Qy

set_option Elab.async false
set_option linter.all false
set_option maxRecDepth 100000
/-! Q10: statements. -/
namespace Qy
open PySem PySem.Spec L2
section
variable {X : Cx} {κ : Kp} {W : WX} {pos : Pos} {a b c e : Expr} {es : List Expr} {f f1 f2 f3 : M D} {g g1 g2 : M Fl} {st : Stmt} {sts : List Stmt} {K : Fg} {Wo : Addr → Prop} {σ : L2.St} {H : Hp}
/-- from an expression's outcome to a statement's -/
theorem EvG.bindS {α β : Type} {Rr : Hp → Hp → α → β → Prop} {r : R α} {k : α → M Fl} {D : Ends} (h : EvS K κ W Wo H (r.bind k) D) :
    EvG Rr K κ W Wo σ H r (fun b H1 => ∃ a ρ1, Fr Wo H H1 ∧ Rel K κ ρ1 Wo σ H1 ∧ Rr (vw κ Wo H1) H1 a b ∧ EvS K κ W Wo H1 (k a ρ1) D) := by
  cases r with
  | ok a ρ => exact fun b H1 f rel rr => ⟨a, ρ, f, rel, rr, EvS.post (Post.of f) h⟩
  | er e ρ => exact fun c d H1 f rel x => h c d σ H1 Wo (Post.of f) rel x
  | st => exact h.elim
theorem bindS {α β : Type} {Rr : Hp → Hp → α → β → Prop} {f : M α} {k : α → M Fl} {ρ : Rho} {D : Ends} (h : EvS K κ W Wo H (bnd f k ρ) D) {Rz : β → Hp → Prop}
    (i : ∀ v H1 d ρ1, Fr Wo H H1 → Rel K κ ρ1 Wo σ H1 → Rr (vw κ Wo H1) H1 d v → EvS K κ W Wo H1 (k d ρ1) D → Rz v H1) : EvG Rr K κ W Wo σ H (f ρ) Rz :=
  (EvG.bindS h).imp fun v H1 ⟨d, ρ1, fr1, rel1, rp, q⟩ => i v H1 d ρ1 fr1 rel1 rp q
/-- .. of a new thing -/
theorem bindSF {f : M D} {k : D → M Fl} {ρ : Rho} {D' : Ends} (h : EvS K κ W Wo H (bnd f k ρ) D') {Rz : VK}
    (i : ∀ p o H1 H' d ρ1, Fr Wo H H1 → Rel K κ ρ1 Wo σ H1 → H1 p = none → Same H1 H' → H' p = some o → Cn K (vw κ (wPlus Wo p) H') d o → EvS K κ W Wo H1 (k d ρ1) D' → Rz (.ref p) H') : EvF K κ W Wo σ H (f ρ) Rz := by
  have h : EvS K κ W Wo H ((f ρ).bind k) D' := h
  cases hf : f ρ with
  | ok d ρ1 =>
    rw [hf] at h
    exact fun p o H1 H' fr rel hp s e c => i p o H1 H' d ρ1 fr rel hp s e c (EvS.post (Post.of fr) h)
  | er e ρ1 => rw [hf] at h; exact fun c d H1 f rel x => h c d σ H1 Wo (Post.of f) rel x
  | st => rw [hf] at h; exact h.elim
/-! ### blocks -/
def gSeq (g1 g2 : M Fl) : M Fl := fun ρ => match g1 ρ with
  | .ok .nx ρ' => g2 ρ'
  | r => r
def gSkip : M Fl := ret .nx
theorem qss_nil : QSs X κ W [] gSkip := PSs.imp pss_nil fun D σ H ⟨ρ, Wo, rel, q⟩ => q σ H Wo .refl rel
theorem EvS.seq {ρ : Rho} {D : Ends} (h : EvS K κ W Wo H (gSeq g1 g2 ρ) D) : EvS K κ W Wo H (g1 ρ) { D with nx := tsOf K κ W g2 D } := by
  unfold gSeq at h
  cases hg : g1 ρ with
  | ok fl ρ1 =>
    rw [hg] at h
    cases fl with
    | nx => exact fun σ' H' Wo' p rel => ⟨ρ1, Wo', rel, EvS.post p h⟩
    | _ => exact h
  | er e ρ1 => rw [hg] at h; exact h
  | st => rw [hg] at h; exact h
theorem qss_cons (h1 : QS X κ W st g1) (h2 : QSs X κ W sts g2) : QSs X κ W (st :: sts) (gSeq g1 g2) :=
  PSs.imp (pss_cons h1 h2) fun D σ H ⟨ρ, Wo, rel, q⟩ => ⟨ρ, Wo, rel, EvS.seq q⟩
theorem qss_one (h1 : QS X κ W st g1) : QSs X κ W [st] g1 := pss_one h1
/-- a slot is given away ahead of the statement -/
def gFrz (i : Nat) (g : M Fl) : M Fl := fun ρ => match ρ[i]? with
  | some (.ow none d) => g (ρ.set i (.sh d))
  | _ => .st
theorem frz_core {i : Nat} {ρ : Rho} {D : Ends} (rel : Rel K κ ρ Wo σ H) (h : EvS K κ W Wo H (gFrz i g ρ) D) : tsOf K κ W g D σ H := by
  unfold gFrz at h
  cases hr : ρ[i]? with
  | none => rw [hr] at h; exact h.elim
  | some s =>
    rw [hr] at h
    cases s with
    | ow t d =>
      cases t with
      | none =>
        obtain ⟨l, w, rel'⟩ := rel.frz hr
        exact ⟨_, _, rel', EvS.post ⟨fun _ _ _ e => e, fun m z => .inl z.1⟩ h⟩
      | some _ => exact h.elim
    | _ => exact h.elim
theorem qs_frz (i : Nat) (h : QS X κ W st g) : QS X κ W st (gFrz i g) := PS.imp h fun D σ H ⟨ρ, Wo, rel, q⟩ => frz_core rel q
/-! ### stores to names -/
def gPut (i : Nat) (d : D) : M Fl := fun ρ => .ok .nx (ρ.set i (.sh d))
def gPutO (i : Nat) (d : D) : M Fl := fun ρ => .ok .nx (ρ.set i (.ow none d))
def gSet (i : Nat) (f : M D) : M Fl := bnd f fun d => gPut i d
def gOwn (i : Nat) (f : M D) : M Fl := bnd f fun d => gPutO i d
section
variable (i : Nat) {x : Str} {p' : Pos}
theorem qs_set (hN : X.N.Nodup) (he : QE X κ W e f) (hi : X.N[i]? = some x := by rfl) (hx : Loc X.env.scope x := by first | exact .inl rfl | exact .inr rfl) (hs : swapsWith e (some (.Name x p')) pos.line X.env = pure false := by rfl)
    (hf : X.fn x = true ∨ X.env.scope.names.lookup x = some .local := by first | exact .inl rfl | exact .inr rfl) : QS X κ W (.Assign [.Name x p'] e pos) (gSet i f) :=
  PS.imp (ps_set hN hi hx he hs hf) fun D σ H ⟨ρ, Wo, rel, q⟩ => ⟨ρ, Wo, rel, bindS q fun v H1 d ρ1 fr1 rel1 rp q1 => q1 _ H1 Wo .refl (rel1.set rp)⟩
theorem qs_own (hN : X.N.Nodup) (he : QF X κ W e f) (hi : X.N[i]? = some x := by rfl) (hx : Loc X.env.scope x := by first | exact .inl rfl | exact .inr rfl) (hs : swapsWith e (some (.Name x p')) pos.line X.env = pure false := by rfl)
    (hf : X.fn x = true ∨ X.env.scope.names.lookup x = some .local := by first | exact .inl rfl | exact .inr rfl) : QS X κ W (.Assign [.Name x p'] e pos) (gOwn i f) :=
  PS.imp (ps_set hN hi hx he hs hf) fun D σ H ⟨ρ, Wo, rel, q⟩ => ⟨ρ, Wo, rel, bindSF q fun p o H1 H' d ρ1 fr1 rel1 hp s e c q1 =>
    q1 _ H' (wPlus Wo p) ⟨Fr.same s, fun l z => z.imp id fun z => by rw [z]; exact hp⟩ (rel1.own hp s e c)⟩
end
/-! ### returns -/
def gRet (f : M D) : M Fl := bnd f fun d => ret (.rt d)
def gRetF (f : M D) : M Fl := bnd f fun d => ret (.rf d)
def gRetO (i : Nat) : M Fl := fun ρ => match ρ[i]? with
  | some (.ow none d) => .ok (.rf d) ρ
  | _ => .st
theorem qs_ret (he : QE X κ W e f) : QS X κ W (.Return (some e) pos) (gRet f) :=
  PS.imp (ps_ret he) fun D σ H ⟨ρ, Wo, rel, q⟩ => ⟨ρ, Wo, rel, bindS q fun v H1 d ρ1 fr1 rel1 rp q1 => q1 σ H1 Wo .refl rel1 v rp⟩
theorem qs_retF (he : QF X κ W e f) : QS X κ W (.Return (some e) pos) (gRetF f) :=
  PS.imp (ps_ret he) fun D σ H ⟨ρ, Wo, rel, q⟩ => ⟨ρ, Wo, rel, bindSF q fun p o H1 H' d ρ1 fr1 rel1 hp s e c q1 =>
    q1 σ H' (wPlus Wo p) ⟨Fr.same s, fun l z => z.imp id fun z => by rw [z]; exact hp⟩ (rel1.plus hp s e c.nt) p o (.inr rfl) e c⟩
theorem qs_retO (i : Nat) {x : Str} {p : Pos} (hN : X.N[i]? = some x := by rfl) (hv : Vis X.env.scope x := by first | exact Or.inl rfl | exact Or.inr (Or.inl rfl) | exact Or.inr (Or.inr rfl)) (hd : (x == ("__debug__" : Str)) = false := by decide)
    (hcd : (x == ("__classdict__" : Str)) = false := by decide) : QS X κ W (.Return (some (.Name x p)) pos) (gRetO i) :=
  PS.imp (ps_ret (pe_var hN hv hd hcd)) fun D σ H ⟨ρ, Wo, rel, q⟩ => by
    unfold gRetO at q
    cases hr : ρ[i]? with
    | none => rw [hr] at q; exact q.elim
    | some s =>
      rw [hr] at q
      cases s with
      | ow t d =>
        cases t with
        | none =>
          obtain ⟨l, o, e, w, h, c, _⟩ := rel.ow i _ d hr
          exact ⟨_, e, q σ H Wo .refl rel l o w h c⟩
        | some _ => exact q.elim
      | _ => exact q.elim
/-! ### if, expressions -/
theorem qs_if {t : M Bool} {as bs : List Stmt} (hc : QT X κ W c t) (ha : QSs X κ W as g1) (hb : QSs X κ W bs g2) : QS X κ W (.If c as bs pos) (gIf t g1 g2) :=
  PS.imp (ps_if hc ha hb) fun D σ H ⟨ρ, Wo, rel, q⟩ => ⟨ρ, Wo, rel, bindS q fun k H1 k' ρ1 fr1 rel1 e q1 => by
    subst e
    cases k' with
    | true => exact ⟨ρ1, Wo, rel1, q1⟩
    | false => exact ⟨ρ1, Wo, rel1, q1⟩⟩
def gDrop (f : M D) : M Fl := bnd f fun _ => ret .nx
theorem qs_expr (he : QE X κ W e f) (hs : swapsWith e none pos.line X.env = pure false := by rfl) : QS X κ W (.Expr e pos) (gDrop f) :=
  PS.imp (ps_expr he hs) fun D σ H ⟨ρ, Wo, rel, q⟩ => ⟨ρ, Wo, rel, bindS q fun v H1 d ρ1 fr1 rel1 rp q1 => q1 σ H1 Wo .refl rel1⟩
/-! ### methods that change a list of one's own -/
theorem Fr.put {l : Addr} {o : HO} (w : Wo l) : Fr Wo H (upd H l o) := fun b u n e => by
  rw [upd_ne (fun z => n (by rw [z]; exact w))]
  exact e
def mutL (i : Nat) (h : List D → D → Option (List D)) (y : D) : M Fl := fun ρ => match ρ[i]? with
  | some (.ow t (.lst ds)) => (match h ds y with
    | some es => .ok .nx (ρ.set i (.ow t (.lst es)))
    | none => .st)
  | _ => .st
def isOwL (i : Nat) {α : Type} (g : M α) : M α := fun ρ => match ρ[i]? with
  | some (.ow _ (.lst _)) => g ρ
  | _ => .st
def gMutL (i : Nat) (h : List D → D → Option (List D)) (f : M D) : M Fl := isOwL i (bnd f fun y => mutL i h y)
theorem isOwL_at {K : Fg} {α : Type} {i : Nat} {g : M α} {ρ : Rho} (rel : Rel K κ ρ Wo σ H) : (∃ l t ds vs, ρ[i]? = some (.ow t (.lst ds)) ∧ σ[i]? = some (some (.ref l)) ∧ Wo l ∧ H l = some (.lst vs) ∧ Rps K (vw κ Wo H) ds vs ∧ isOwL i g ρ = g ρ) ∨ isOwL i g ρ = .st := by
  unfold isOwL
  cases hr : ρ[i]? with
  | none => exact .inr rfl
  | some s =>
    cases s with
    | ow t d =>
      cases d with
      | lst ds =>
        obtain ⟨l, o, e, w, hl, c, _⟩ := rel.ow i t _ hr
        cases o with
        | lst vs => exact .inl ⟨l, t, ds, vs, rfl, e, w, hl, c, rfl⟩
        | _ => exact c.elim
      | _ => exact .inr rfl
    | _ => exact .inr rfl
/-- what a method asks, by what it makes of the list -/
def MutG (X : Cx) (r : V → List V → Hp → VK → Prop) (h : List D → D → Option (List D)) : Prop := ∀ (S H : Hp) (l : Addr) (vs : List V) (ds es : List D) (y : D) (v : V) (Q : VK), h ds y = some es → Rps X.K S ds vs → Rp X.K S y v → Ord S H → H l = some (.lst vs) →
  (∀ ws, Rps X.K S es ws → Q .non (upd H l (.lst ws))) → r (.ref l) [v] H Q
theorem mutL_core {i : Nat} {h : List D → D → Option (List D)} {ρ : Rho} {D' : Ends} {r : V → List V → Hp → VK → Prop} (hg : MutG X r h) (rel : Rel X.K κ ρ Wo σ H) (q : EvS X.K κ W Wo H (gMutL i h f ρ) D') :
    tBM X.K "list" r (tVar i) (tCons (teOf X.K κ W f) tNil) σ H (fun _ H1 => D'.nx σ H1) := by
  rcases isOwL_at (i := i) (g := bnd f fun y => mutL i h y) rel with ⟨l, t, ds, vs, hr, e, w, hl, rs, eq⟩ | eq
  · unfold gMutL at q
    rw [eq] at q
    refine ⟨.ref l, e, .inl ⟨rfl, vs, .inl (.inl hl)⟩, ρ, Wo, rel, bindS q fun v H1 y ρ1 fr1 rel1 rp q1 => ?_⟩
    show r (.ref l) [v] H1 _
    unfold mutL at q1
    cases hr1 : ρ1[i]? with
    | none => rw [hr1] at q1; exact q1.elim
    | some s1 =>
      rw [hr1] at q1
      cases s1 with
      | ow t1 d1 =>
        cases d1 with
        | lst ds1 =>
          obtain ⟨l1, o1, e1, w1, hl1, c1, _⟩ := rel1.ow i t1 _ hr1
          rw [e] at e1; cases e1
          cases o1 with
          | lst vs1 =>
            cases hh : h ds1 y with
            | none => simp only [hh] at q1; exact q1.elim
            | some es =>
              simp only [hh] at q1
              exact hg _ H1 l vs1 ds1 es y v _ hh c1 rp hide_le hl1 fun ws rw' => q1 σ _ Wo (Post.of (Fr.put w)) (rel1.put hr1 e rw')
          | _ => exact c1.elim
        | _ => exact q1.elim
      | _ => exact q1.elim
  · unfold gMutL at q
    rw [eq] at q
    exact q.elim
def appD (ds : List D) (y : D) : Option (List D) := if ds.length < 16777216 then some (ds ++ [y]) else none
theorem mutg_append : MutG X rAppend appD := fun S H l vs ds es y v Q e rs rp o hl k => by
  unfold appD at e
  split at e
  · rename_i hz
    cases e
    exact ⟨l, vs, v, rfl, rfl, hl, by rw [← rs.length]; exact hz, k _ (rs.append (rps_cons rp rps_nil))⟩
  · cases e
theorem qs_mut (i : Nat) {call : Expr} {r : V → List V → Hp → VK → Prop} {h : List D → D → Option (List D)} (hg : MutG X r h) (hp : PE X call (tBM X.K "list" r (tVar i) (tCons (teOf X.K κ W f) tNil))) (hs : swapsWith call none pos.line X.env = pure false := by rfl) :
    QS X κ W (.Expr call pos) (gMutL i h f) := PS.imp (ps_expr hp hs) fun D σ H ⟨ρ, Wo, rel, q⟩ => mutL_core hg rel q
/-! ### o[k] = v -/
def repD {κ : Type} [DecidableEq κ] (k : κ) (d : D) : List κ → List D → List D
  | j :: ks, e :: ds => (if j = k then d else e) :: repD k d ks ds
  | _, ds => ds
def putKs {κ : Type} [DecidableEq κ] (k : κ) (ks : List κ) : List κ := if ks.any (fun j => decide (j = k)) = true then ks else ks ++ [k]
def putDs {κ : Type} [DecidableEq κ] (k : κ) (d : D) (ks : List κ) (ds : List D) : List D := if ks.any (fun j => decide (j = k)) = true then repD k d ks ds else ds ++ [d]
theorem put_ok {κ : Type} [DecidableEq κ] {K : Fg} {S : Hp} {kvs : List (κ × V)} {ds : List D} {k : κ} {d : D} {v : V} (rs : Rps K S ds (kvs.map (·.2))) (rp : Rp K S d v) :
    (putK kvs k v).map (·.1) = putKs k (kvs.map (·.1)) ∧ Rps K S (putDs k d (kvs.map (·.1)) ds) ((putK kvs k v).map (·.2)) := by
  have ha : (kvs.map (·.1)).any (fun j => decide (j = k)) = kvs.any fun kv => decide (kv.1 = k) := by rw [List.any_map]; rfl
  unfold putKs putDs putK
  rw [ha]
  split
  · refine ⟨?_, ?_⟩
    · rw [List.map_map]
      refine List.map_congr_left fun kv _ => ?_
      show (if kv.1 = k then (kv.1, v) else kv).1 = kv.1
      split <;> rfl
    · rename_i hany
      clear ha hany
      induction kvs generalizing ds with
      | nil => cases ds with
        | nil => exact rps_nil
        | cons d' ds => simp only [List.map_nil, Rps] at rs; obtain ⟨_, _, h, _⟩ := rs; cases h
      | cons kv kvs ih =>
        cases ds with
        | nil => simp only [List.map_cons, Rps] at rs; cases rs
        | cons d' ds =>
          simp only [List.map_cons, Rps] at rs
          obtain ⟨v', r, e, q, z⟩ := rs
          cases e
          simp only [List.map_cons, repD]
          refine rps_cons ?_ (ih z)
          by_cases hk : kv.1 = k
          · rw [if_pos hk, if_pos hk]; exact rp
          · rw [if_neg hk, if_neg hk]; exact q
  · refine ⟨by simp, ?_⟩
    rw [List.map_append]
    exact rs.append (rps_cons rp rps_nil)
/-- the content behind c[k] = d -/
def stD (c k d : D) : Option D := match c with
  | .lst ds => match k with
    | .int i => (ixN ds.length i).map fun j => .lst (ds.set j d)
    | _ => none
  | .dk ks ds => (key1 k).bind fun k => if ks.length < 16777216 then some (.dk (putKs k ks) (putDs k d ks ds)) else none
  | .dt ks ds => (keyT k).bind fun k => if ks.length < 16777216 then some (.dt (putKs k ks) (putDs k d ks ds)) else none
  | _ => none
def rSetQ : TSet := fun o i v H Q => rSetL o i v H Q ∨ rSetD o i v H Q
theorem set_Q (hu : X.A.units + 1 < cLine) : PSet X rSetQ := fun pins s σ H o i v ov iv u Q I r1 r2 r3 h => by
  rcases h with h | h
  · exact set_list pins s σ H o i v ov iv u Q I r1 r2 r3 h
  · exact set_dict hu pins s σ H o i v ov iv u Q I r1 r2 r3 h
theorem stD_ok {S H : Hp} {l : Addr} {o : HO} {c k d c' : D} {u v : V} {Q : Hp → Prop} (e : stD c k d = some c') (hc : Cn K S c o) (rk : Rp K S k u) (rd : Rp K S d v) (or : Ord S H) (hl : H l = some o) (q : ∀ o', Cn K S c' o' → Q (upd H l o')) : rSetQ (.ref l) u v H Q := by
  cases c with
  | lst ds =>
    cases o with
    | lst vs =>
      cases k with
      | int i =>
        simp only [Rp] at rk
        have e : (ixN ds.length i).map (fun j => D.lst (ds.set j d)) = some c' := e
        cases hj : ixN ds.length i with
        | none => rw [hj] at e; cases e
        | some j =>
          rw [hj] at e
          cases e
          have hc : Rps K S ds vs := hc
          exact .inl ⟨l, vs, i, j, rfl, rk, hl, by rw [← hc.length]; exact hj, q _ (hc.set rd j)⟩
      | _ => cases e
    | _ => exact hc.elim
  | dk ks ds =>
    cases o with
    | dK kvs =>
      have e : (key1 k).bind (fun k => if ks.length < 16777216 then some (D.dk (putKs k ks) (putDs k d ks ds)) else none) = some c' := e
      cases hk : key1 k with
      | none => rw [hk] at e; cases e
      | some k' =>
        rw [hk] at e
        obtain ⟨rfl, rs⟩ := hc
        by_cases hz : (kvs.map (·.1)).length < 16777216
        · rw [show ((some k').bind fun k => if (kvs.map (·.1)).length < 16777216 then some (D.dk (putKs k (kvs.map (·.1))) (putDs k d (kvs.map (·.1)) ds)) else none) = some (D.dk (putKs k' (kvs.map (·.1))) (putDs k' d (kvs.map (·.1)) ds)) from if_pos hz] at e
          cases e
          obtain ⟨p1, p2⟩ := put_ok (k := k') rs rd
          exact .inr ⟨l, _, rfl, .inl ⟨kvs, k', hl, key1_ok hk rk, by rw [List.length_map] at hz; exact hz, rfl⟩, q _ ⟨p1, p2⟩⟩
        · rw [show ((some k').bind fun k => if (kvs.map (·.1)).length < 16777216 then some (D.dk (putKs k (kvs.map (·.1))) (putDs k d (kvs.map (·.1)) ds)) else none) = none from if_neg hz] at e
          cases e
    | _ => exact hc.elim
  | dt ks ds =>
    cases o with
    | dT kvs =>
      have e : (keyT k).bind (fun k => if ks.length < 16777216 then some (D.dt (putKs k ks) (putDs k d ks ds)) else none) = some c' := e
      cases hk : keyT k with
      | none => rw [hk] at e; cases e
      | some k' =>
        rw [hk] at e
        obtain ⟨rfl, rs⟩ := hc
        by_cases hz : (kvs.map (·.1)).length < 16777216
        · rw [show ((some k').bind fun k => if (kvs.map (·.1)).length < 16777216 then some (D.dt (putKs k (kvs.map (·.1))) (putDs k d (kvs.map (·.1)) ds)) else none) = some (D.dt (putKs k' (kvs.map (·.1))) (putDs k' d (kvs.map (·.1)) ds)) from if_pos hz] at e
          cases e
          obtain ⟨p1, p2⟩ := put_ok (k := k') rs rd
          obtain ⟨b, rfl, hb⟩ := keyT_ok hk rk
          exact .inr ⟨l, _, rfl, .inr ⟨kvs, k', b, hl, rfl, or.s _ _ rfl hb, by rw [List.length_map] at hz; exact hz, rfl⟩, q _ ⟨p1, p2⟩⟩
        · rw [show ((some k').bind fun k => if (kvs.map (·.1)).length < 16777216 then some (D.dt (putKs k (kvs.map (·.1))) (putDs k d (kvs.map (·.1)) ds)) else none) = none from if_neg hz] at e
          cases e
    | _ => exact hc.elim
  | _ => cases e
def stI (i : Nat) (k d : D) : M Fl := fun ρ => match ρ[i]? with
  | some (.ow t c) => (match stD c k d with
    | some c' => .ok .nx (ρ.set i (.ow t c'))
    | none => .st)
  | _ => .st
def isOw (i : Nat) {α : Type} (g : M α) : M α := fun ρ => match ρ[i]? with
  | some (.ow _ _) => g ρ
  | _ => .st
def gSetI (i : Nat) (fk fv : M D) : M Fl := bnd fv fun d => isOw i (bnd fk fun k => stI i k d)
theorem isOw_at {α : Type} {i : Nat} {g : M α} {ρ : Rho} (rel : Rel K κ ρ Wo σ H) : (∃ l t c o, ρ[i]? = some (.ow t c) ∧ σ[i]? = some (some (.ref l)) ∧ Wo l ∧ H l = some o ∧ Cn K (vw κ Wo H) c o ∧ isOw i g ρ = g ρ) ∨ isOw i g ρ = .st := by
  unfold isOw
  cases hr : ρ[i]? with
  | none => exact .inr rfl
  | some s =>
    cases s with
    | ow t d =>
      obtain ⟨l, o, e, w, hl, c, _⟩ := rel.ow i t _ hr
      exact .inl ⟨l, t, d, o, rfl, e, w, hl, c, rfl⟩
    | _ => exact .inr rfl
theorem qs_setI (i : Nat) {fk fv : M D} {x : Str} {px tpos : Pos} {ek : Expr} (hu : X.A.units + 1 < cLine) (hv : QE X κ W e fv) (hk : QE X κ W ek fk) (hN : X.N[i]? = some x := by rfl) (hx : Vis X.env.scope x := by first | exact Or.inl rfl | exact Or.inr (Or.inl rfl) | exact Or.inr (Or.inr rfl))
    (hd : (x == ("__debug__" : Str)) = false := by decide) (hcd : (x == ("__classdict__" : Str)) = false := by decide)
    (ha : ∀ v, assign (.Subscript (.Name x px) ek tpos) X.env v = (do
      let ov ← holding [v] (eval (.Name x px) X.env)
      let iv ← holding [v, ov] (eval ek X.env)
      standAt tpos
      holding [v, ov, iv] (setItem ov iv v)
      release [v, ov, iv] []) := by intro _; rfl)
    (hs : swapsWithSole [.Subscript (.Name x px) ek tpos] e pos.line X.env = pure false := by rfl) (hw : swappedStores [.Subscript (.Name x px) ek tpos] e X.env = pure none := by rfl)
    (h1 : (assignEach [.Subscript (.Name x px) ek tpos] X.env).map (·.2) = [assign (.Subscript (.Name x px) ek tpos) X.env] := by rfl) : QS X κ W (.Assign [.Subscript (.Name x px) ek tpos] e pos) (gSetI i fk fv) :=
  PS.imp (ps_asg hv (pg_sub (pe_var hN hx hd hcd) hk (set_Q hu) ha) hs hw h1) fun D σ H ⟨ρ, Wo, rel, q⟩ => ⟨ρ, Wo, rel, bindS q fun v H1 d ρ1 fr1 rel1 rp q1 => by
    rcases isOw_at (i := i) (g := bnd fk fun k => stI i k d) rel1 with ⟨l, t, c, o, hr, e1, w, hl, cn, eq⟩ | eq
    · rw [eq] at q1
      refine ⟨_, e1, ρ1, Wo, rel1, bindS q1 fun u H2 k ρ2 fr2 rel2 rk q2 => ?_⟩
      unfold stI at q2
      cases hr2 : ρ2[i]? with
      | none => rw [hr2] at q2; exact q2.elim
      | some s2 =>
        rw [hr2] at q2
        cases s2 with
        | ow t2 c2 =>
          obtain ⟨l2, o2, e2, w2, hl2, cn2, _⟩ := rel2.ow i t2 _ hr2
          rw [e1] at e2; cases e2
          cases hh : stD c2 k d with
          | none => simp only [hh] at q2; exact q2.elim
          | some c' =>
            simp only [hh] at q2
            exact stD_ok hh cn2 rk (rp.mono (Ord.fr fr2)) hide_le hl2 fun o' c3 => q2 σ _ Wo (Post.of (Fr.put w)) (rel2.put hr2 e1 c3)
        | _ => exact q2.elim
    · rw [eq] at q1
      exact q1.elim⟩
end
end Qy

set_option Elab.async false
set_option linter.all false
set_option maxRecDepth 100000
/-! Q11: enumerate of a tuple; for loops. -/
namespace Qy
open PySem PySem.Spec L2
section
set_option maxHeartbeats 1000000 in
theorem meets_enumerate_new1 {v : Value} {o : Obj} {H : Heap → Prop} (B : Begins v o H) :
    Meets (Builtin.«enumerate.__new__» ⟨[.type "enumerate", v], []⟩) (fun _ R s => H s.heap ∧
      R (.ok (.ret (.ref (s.heap.push o).objs.size))) { s with heap := (s.heap.push o).push { cls := .type "enumerate", data := .fields #[.none, .bool false, .ref s.heap.objs.size, rawInt 0, .none, .none] } }) :=
  .of_wp fun prog w A R s h => by
    obtain ⟨hp, g, d, tk, os⟩ := s; obtain ⟨h1, h⟩ := h
    have hsub := sub_enumerate
    have q1 : ∀ {A' : Around} {E : Value → Shared → Prop} {Q : Value → Shared → Prop}, Q (.ref hp.objs.size) ⟨hp.push o, g, d, tk, os⟩ → wpAny (model prog w) A' (pyIter v) Q E ⟨hp, g, d, tk, os⟩ :=
      fun q => B.iter prog w _ _ ⟨hp, g, d, tk, os⟩ _ h1 q
    wp_walk using q1
    refine wpAny_stack_any fun st => wpAny_pure ?_
    split
    · rename_i c _ _ _ _ _
      cases (c == Value.type "enumerate")
      · wp_walk using q1
        exact ⟨_, rfl, h⟩
      · wp_walk using q1
        exact ⟨_, rfl, h⟩
    · wp_walk using q1
      exact ⟨_, rfl, h⟩
variable {prog : Program} {w : World} {A : Around} {E : Value → Shared → Prop} {s : Shared}
theorem enum_begins1 {v : Value} {o : Obj} {H : Heap → Prop} {Q : Value → Shared → Prop} (B : Begins v o H) (h1 : H s.heap)
    (h : ∀ h', IsEnum h' (s.heap.objs.size + 1) s.heap.objs.size 0 .none → h'.get? s.heap.objs.size = some o → h'.objs.size = s.heap.objs.size + 2 →
      (∀ b o, s.heap.get? b = some o → h'.get? b = some o) → Q (.ref (s.heap.objs.size + 1)) { s with heap := h' }) :
    wpAny (model prog w) A (call (.type "enumerate") [v]) Q E s := by
  refine callType_new F.called_enumerate (by decide) (F.typeCall_enumerate_1 _) (F.newCall_enumerate_1 _) (fun obj => F.args_object_init_2 obj _) F.entry_enumerate_new
    (meets_enumerate_new1 B) ⟨h1, ?_⟩
  have hz : (s.heap.push o).objs.size = s.heap.objs.size + 1 := Heap.size_push ..
  show _ ∧ _
  rw [hz]
  have he : IsEnum ((s.heap.push o).push { cls := .type "enumerate", data := .fields #[.none, .bool false, .ref s.heap.objs.size, rawInt 0, .none, .none] }) (s.heap.objs.size + 1) s.heap.objs.size 0 .none := by
    have := Heap.get?_push_size (s.heap.push o) (o := { cls := .type "enumerate", data := .fields #[.none, .bool false, .ref s.heap.objs.size, rawInt 0, .none, .none] }) rfl
    rw [hz] at this; exact this
  refine ⟨⟨_, he, rfl⟩, h _ he (Heap.get?_push_of_some _ (Heap.get?_push_size _ B.free)) (by rw [Heap.size_push, hz]) fun b o x => Heap.get?_push_of_some _ (Heap.get?_push_of_some _ x)⟩
end
/-- the tuple at a, each item in a new pair -/
def IteT (K : PySem.W.Frag) (a : Addr) : It :=
  ⟨fun i H => ∃ (xs : List V) (x : V), SqT K H a xs ∧ xs[i]? = some x, fun i H v H' => ∃ T x, v = .ref T ∧ H T = none ∧ H' = upd H T (.tup [.int (i : Nat), x]) ∧ ∀ xs, SqT K H a xs → xs[i]? = some x, fun i H => ∃ xs : List V, SqT K H a xs ∧ xs.length = i⟩
theorem turn_enumT {P : Program} {w : World} {K : PySem.W.Frag} {elts : List Expr} {kk : Nat} {tpos : Pos} (a e it : Addr) :
    Turn P w K (.Tuple elts kk tpos) (IteT K a) [e, it] e (fun i h => (∃ old, IsEnum h e it ((i : Nat) : Int) old) ∧ h.IsTupleIter it a i ∧ e ≠ it) where
  mem := by simp
  obj := fun i h st b hb => by
    obtain ⟨⟨old, he⟩, ⟨o, ho, hc, hd⟩, _⟩ := st
    have e' : b = e ∨ b = it := by simpa using hb
    rcases e' with z | z
    · rw [z]; exact ⟨_, he, fun v q => nomatch q⟩
    · rw [z]; exact ⟨o, ho, fun v q => by rw [hd] at q; cases q⟩
  keep := fun i h h' st k => let ⟨⟨old, he⟩, hi, hne⟩ := st; ⟨⟨old, k e (by simp) _ he⟩, hi.at fun o q => k it (by simp) o q, hne⟩
  item := by
    intro X hP hw hK hc i pins s σ H E I hf st hg
    subst hP hw hK
    obtain ⟨⟨old, he⟩, hit, hne⟩ := st
    obtain ⟨xs, x, hq, hx⟩ := hg
    obtain ⟨its, rv, p, hz⟩ := I.tuple hq
    obtain ⟨u, hu, ru⟩ := rv.get hx
    have hel : e < s.heap.objs.size := Heap.lt_size he
    have hil : it < s.heap.objs.size := by obtain ⟨_, q, _⟩ := hit; exact Heap.lt_size q
    have pt : s.heap.IsTuple a its.toArray := p
    have hta : a ≠ it := fun z => by
      obtain ⟨o1, q1, c1, _⟩ := hit
      obtain ⟨o2, q2, c2, _⟩ := id pt
      rw [z, q1] at q2; cases q2
      rw [c1] at c2
      injection c2 with c3
      exact absurd c3 (by decide)
    have hte : a ≠ e := fun z => by
      obtain ⟨o2, q2, c2, _⟩ := id pt
      have he' : s.heap.get? e = some _ := he
      rw [z, he'] at q2; cases q2
      injection c2 with c3
      exact absurd c3 (by decide)
    have lt : i < its.toArray.size := by
      have := (List.getElem?_eq_some_iff.mp hu).1
      simpa using this
    refine wpAny_pyNext_enum_itemC (Draws.tuple (show X.A.in1.handled = none from I.ok.hd hc) it a hta its.toArray) he ⟨hit, pt⟩ lt hne (by simp [hne, Ne.symm hte]) fun x' h' tk hP ho hs' hT hsz hk => ?_
    have ex : x' = u := by
      have h1 : its.toArray[i]? = some x' := hP
      have h2 : its.toArray[i]? = some u := by simpa using hu
      rw [h1] at h2; exact Option.some.inj h2
    subst ex
    refine ⟨_, rfl, wpAny_letOwnedTupleGo_enum (s := { s with heap := h', toks := tk + 1 }) ho fun h'' he' sb => ?_⟩
    have hT2 : h''.get? s.heap.objs.size = some { cls := .type "tuple", data := .seq #[.int i tk, x'] } := (sb.2 _ (Nat.ne_of_gt hel)).trans hT
    have new : ObjOk X.prog X.w (upd H s.heap.objs.size (.tup [.int (i : Nat), x])) h'' s.heap.objs.size (.tup [.int (i : Nat), x]) :=
      ⟨by show 2 ≤ sizeLine; decide, [.int i tk, x'], .cons ⟨_, rfl⟩ (.cons ru .nil), ⟨_, hT2, rfl, _, rfl⟩⟩
    have I1 : Inv X pins σ (upd H s.heap.objs.size (.tup [.int (i : Nat), x])) { s with heap := h'', toks := tk + 1 } :=
      I.turnedNew (ch := [e, it]) (fun b ob hb q => (sb.2 b (fun z => hb (by simp [z]))).trans (hk b ob (fun z => hb (by simp [z])) (fun z => hb (by simp [z])) q)) hf (Nat.le_refl _) new
    refine ⟨.ref s.heap.objs.size, _, I1, rfl, ⟨_, x, rfl, I.hok.fresh (Nat.le_refl _), rfl, fun ys hy => by rw [I.tuple_inj hy hq]; exact hx⟩, ⟨⟨x', ?_⟩, hs'.1.at fun o q => (sb.2 it (Ne.symm hne)).trans q, hne⟩, fun b hb => ?_⟩
    · have e1 : ((i + 1 : Nat) : Int) = (i : Int) + 1 := by omega
      rw [e1]; exact he'
    · have hb' : b < s.heap.objs.size := by
        have e' : b = e ∨ b = it := by simpa using hb
        rcases e' with z | z
        · rw [z]; exact hel
        · rw [z]; exact hil
      rw [upd_ne (Nat.ne_of_lt hb')]
      exact (hf b hb).1
  done := by
    intro X hP hw hK hc i pins s σ H E I hf st hg
    subst hP hw hK
    obtain ⟨⟨old, he⟩, hit, hne⟩ := st
    obtain ⟨xs, hq, hx⟩ := hg
    obtain ⟨its, rv, p, hz⟩ := I.tuple hq
    obtain ⟨f0, f1, f2, f3, f4, f5⟩ := hf it (by simp)
    have hl := rv.length
    have pt : s.heap.IsTuple a its.toArray := p
    have hta : a ≠ it := fun z => by
      obtain ⟨o1, q1, c1, _⟩ := hit
      obtain ⟨o2, q2, c2, _⟩ := id pt
      rw [z, q1] at q2; cases q2
      rw [c1] at c2
      injection c2 with c3
      exact absurd c3 (by decide)
    have hi : i = its.toArray.size := by rw [← hx, hl]; simp
    subst hi
    exact wpAny_pyNext_enum_endD (Draws.tuple (show X.A.in1.handled = none from I.ok.hd hc) it a hta its.toArray) he ⟨hit, pt⟩ fun h' eb => ⟨rfl, I.turned (t' := s.toks) (fun b o hb q => eb b o hb q) f0 f1 f3 f4 f5⟩
  self := fun A i s Q E st h => let ⟨⟨_, he⟩, _⟩ := st; wpAny_pyIter_enum he h
theorem walk_enumT {K : Fg} {a : Addr} {xs : List V} : Walk (IteT K a) xs.length (fun H => SqT K H a xs) (YPair (fun i => some (.int (i : Nat))) (fun i => xs[i]?)) := by
  refine ⟨fun i _ hi q => ⟨xs, xs[i], q, by simp [hi]⟩, fun _ q => ⟨xs, q, rfl⟩, fun i H v H' _ q y => ?_⟩
  obtain ⟨T, x, h1, h2, h3, h4⟩ := y
  exact ⟨T, .int (i : Nat), x, h1, h2, h3, rfl, h4 xs q⟩
def iEnumQ (K : PySem.W.Frag) (ta : TA) : TI := fun σ H R => ta σ H fun vs H1 => ∃ a xs, vs = [.ref a] ∧ ((SqL K H1 a xs ∧ R (Ite K a) H1) ∨ (SqT K H1 a xs ∧ R (IteT K a) H1))
open PyProof.Rows in
theorem pi_enumQ {X : Cx} {e : Expr} {ta : TA} {p pos tpos : Pos} {elts : List Expr} {kk : Nat} (hg : Gl X "enumerate") (hm : X.mg "enumerate" = none) (ha : PA X [e] ta) (hs : starEach [e] X.env = [(false, eval e X.env)] := by rfl) :
    PI X (.Tuple elts kk tpos) (.Call (.Name "enumerate" p) [e] [] pos) (iEnumQ X.K ta) := by
  refine ⟨fun pins s σ H R I h => ?_⟩
  refine Call_ (ld_blt I hg hm boot_enumerate (PyProof.Rows.callWith_type1 (thn (ha.run pos pins s σ H _ I h) fun us s1 ⟨vs, H1, I1, r1, q1⟩ => ?_) hs rfl))
  obtain ⟨a, xs, ex, hq⟩ := q1
  subst ex
  cases r1 with
  | cons r rr =>
    cases rr
    cases r
    have fp : ∀ b ∈ [s1.heap.objs.size + 1, s1.heap.objs.size], FpOk X pins H1 b := fun b hb => by
      have e' : b = s1.heap.objs.size + 1 ∨ b = s1.heap.objs.size := by simpa using hb
      have hle : s1.heap.objs.size ≤ b := by
        rcases e' with z | z
        · rw [z]; exact Nat.le_add_right _ _
        · rw [z]; exact Nat.le_refl _
      exact I1.fpOk hle (I1.hok.fresh hle)
    rcases hq with ⟨hq, q⟩ | ⟨hq, q⟩
    · obtain ⟨its, rv, p', hz⟩ := I1.list hq
      refine call_enumerate_list p'.isList fun h' he hit hsz hk => wpAny_pyIter_enum he ?_
      have I2 : Inv X pins σ H1 { s1 with heap := h' } := I1.kept (t' := s1.toks) hk
      exact ⟨s1.heap.objs.size + 1, [s1.heap.objs.size + 1, s1.heap.objs.size], _, _, H1, rfl, I2, turn_enum a (s1.heap.objs.size + 1) s1.heap.objs.size, ⟨⟨.none, he⟩, hit, Nat.succ_ne_self _⟩, fp, q⟩
    · obtain ⟨its, rv, p', hz⟩ := I1.tuple hq
      have pt : s1.heap.IsTuple a its.toArray := p'
      refine enum_begins1 (begins_tuple a its.toArray) pt fun h' he hit hsz hk => wpAny_pyIter_enum he ?_
      have I2 : Inv X pins σ H1 { s1 with heap := h' } := I1.kept (t' := s1.toks) hk
      exact ⟨s1.heap.objs.size + 1, [s1.heap.objs.size + 1, s1.heap.objs.size], _, _, H1, rfl, I2, turn_enumT a (s1.heap.objs.size + 1) s1.heap.objs.size, ⟨⟨.none, he⟩, ⟨_, hit, rfl, rfl⟩, Nat.succ_ne_self _⟩, fp, q⟩
/-! ### unlocking -/
/-- as it is, or once more unlocked -/
def UnL (X : Cx) (P : Hp → Prop) (H : Hp) : Prop := P H ∨ ∃ d od u, H d = some (.frz od u) ∧ (∀ o' u', X.H_0 d ≠ some (.frz o' u')) ∧ P (upd H d u)
theorem ps_unl {X : Cx} {st : Stmt} {t : TS} (h : PS X st t) : PS X st (fun D σ H => t ⟨fun σ' => UnL X (D.nx σ'), fun v => UnL X (D.rt v), fun σ' => UnL X (D.bk σ'), fun σ' => UnL X (D.ct σ')⟩ σ H) :=
  ⟨fun pins s σ H D I q => thn (h.run pins s σ H _ I q) fun f s1 q => by
    cases f with
    | next =>
      obtain ⟨σ', H', I2, q⟩ := q
      rcases q with q | ⟨d, od, u, e, n, q⟩
      · exact ⟨σ', H', I2, q⟩
      · exact ⟨σ', _, I2.unlock e n, q⟩
    | brk =>
      obtain ⟨σ', H', I2, q⟩ := q
      rcases q with q | ⟨d, od, u, e, n, q⟩
      · exact ⟨σ', H', I2, q⟩
      · exact ⟨σ', _, I2.unlock e n, q⟩
    | cont =>
      obtain ⟨σ', H', I2, q⟩ := q
      rcases q with q | ⟨d, od, u, e, n, q⟩
      · exact ⟨σ', H', I2, q⟩
      · exact ⟨σ', _, I2.unlock e n, q⟩
    | ret v =>
      obtain ⟨x, σ', H', I2, r, q⟩ := q
      rcases q with q | ⟨d, od, u, e, n, q⟩
      · exact ⟨x, σ', H', I2, r, q⟩
      · exact ⟨x, σ', _, I2.unlock e n, r, q⟩⟩
theorem pe_unl {X : Cx} {e : Expr} {t : TE} (h : PE X e t) : PE X e (fun σ H Q => t σ H fun v => UnL X (Q v)) :=
  ⟨fun pins s σ H Q I q => thn (h.run pins s σ H _ I q) fun u s1 ⟨v, H', I2, r, q⟩ => by
    rcases q with q | ⟨d, od, u, e, n, q⟩
    · exact ⟨v, H', I2, r, q⟩
    · exact ⟨v, _, I2.unlock e n, r, q⟩⟩
def WUn (X : Cx) (W : WX) : WX := fun cls dd σ => UnL X (W cls dd σ)
theorem Takes.unl {X : Cx} {W : WX} (t : Takes X W) : Takes X (WUn X W) := fun u s' ⟨a, B, sI, pins, σ, H, cls, d, e, I, nb, up, sky, na, os, ag, w⟩ => by
  rcases w with w | ⟨dd, od, u', e', n, w⟩
  · exact t u s' ⟨a, B, sI, pins, σ, H, cls, d, e, I, nb, up, sky, na, os, ag, w⟩
  · refine t u s' ⟨a, B, sI, pins, σ, _, cls, d, e, I.unlock e' n, nb, up, sky, ?_, os, ag, w⟩
    rw [upd_ne (fun z => by rw [z, e'] at na; cases na)]
    exact na
end Qy

set_option Elab.async false
set_option linter.all false
set_option maxRecDepth 100000
/-! Q12: locks, targets, for loops. -/
namespace Qy
open PySem PySem.Spec L2
section
variable {X : Cx} {κ : Kp} {W : WX} {K : Fg} {Wo : Addr → Prop} {σ : L2.St} {H : Hp} {ρ : Rho}
theorem Ord.post {Wo' : Addr → Prop} {H' : Hp} (p : Post Wo H Wo' H') : Ord (vw κ Wo H) (vw κ Wo' H') := hide_ord (fun a n e z => by
    rcases z with z | z
    · rcases p.wo a z with z | z
      · exact n (.inl z)
      · exact e z
    · exact n (.inr z)) (fun a o n e => p.fr a o (fun z => n (.inl z)) e)
def isDi : HO → Bool
  | .dK _ => true
  | .dT _ => true
  | _ => false
theorem isDi_s {u : HO} (h : isDi u = true) : isS u = false := by cases u <;> first | rfl | (cases h; done)
theorem isDi_t {u : HO} (h : isDi u = true) : isT u = false := by cases u <;> first | rfl | (cases h; done)
theorem Ord.lock {X : Addr → Prop} {d : Addr} {u : HO} {od : Obj} (h : H d = some u) (di : isDi u = true) : Ord (hide X H) (hide X (upd H d (.frz od u))) := by
  have key : ∀ a o, a ≠ d → hide X H a = some o → hide X (upd H d (.frz od u)) a = some o := fun a o ne e => by
    obtain ⟨n, e⟩ := hide_some e
    rw [hide_out n, upd_ne ne]; exact e
  have at_d : ∀ o, hide X H d = some o → o = u ∧ hide X (upd H d (.frz od u)) d = some (.frz od u) := fun o e => by
    obtain ⟨n, e⟩ := hide_some e
    rw [h] at e
    exact ⟨(Option.some.inj e).symm, by rw [hide_out n, upd_same]⟩
  refine ⟨fun a o n r => ?_, fun a o n e => ?_⟩
  · by_cases ha : a = d
    · subst ha
      rcases r with r | ⟨o2, r⟩
      · obtain ⟨rfl, q⟩ := at_d _ r
        exact .inr ⟨od, q⟩
      · obtain ⟨z, _⟩ := at_d _ r
        rw [← z] at di; cases di
    · rcases r with r | ⟨o2, r⟩
      · exact .inl (key a _ ha r)
      · exact .inr ⟨o2, key a _ ha r⟩
  · refine key a o (fun z => ?_) e
    rw [z] at e
    obtain ⟨rfl, _⟩ := at_d _ e
    rw [isDi_s di] at n; cases n
theorem Ord.unlock {X : Addr → Prop} {d : Addr} {u : HO} {od : Obj} (h : H d = some (.frz od u)) (di : isDi u = true) : Ord (hide X H) (hide X (upd H d u)) := by
  have key : ∀ a o, a ≠ d → hide X H a = some o → hide X (upd H d u) a = some o := fun a o ne e => by
    obtain ⟨n, e⟩ := hide_some e
    rw [hide_out n, upd_ne ne]; exact e
  have at_d : ∀ o, hide X H d = some o → o = .frz od u ∧ hide X (upd H d u) d = some u := fun o e => by
    obtain ⟨n, e⟩ := hide_some e
    rw [h] at e
    exact ⟨(Option.some.inj e).symm, by rw [hide_out n, upd_same]⟩
  refine ⟨fun a o n r => ?_, fun a o n e => ?_⟩
  · by_cases ha : a = d
    · subst ha
      rcases r with r | ⟨o2, r⟩
      · obtain ⟨rfl, q⟩ := at_d _ r
        cases n
      · obtain ⟨z, q⟩ := at_d _ r
        cases z
        exact .inl q
    · rcases r with r | ⟨o2, r⟩
      · exact .inl (key a _ ha r)
      · exact .inr ⟨o2, key a _ ha r⟩
  · refine key a o (fun z => ?_) e
    rw [z] at e
    obtain ⟨rfl, _⟩ := at_d _ e
    cases n
theorem hide_none : hide (fun _ => False) H = H := by funext a; exact hide_out (fun z => z)
theorem Ord.lock0 {d : Addr} {u : HO} {od : Obj} (h : H d = some u) (di : isDi u = true) : Ord H (upd H d (.frz od u)) := by
  have := Ord.lock (X := fun _ => False) (od := od) h di
  rw [hide_none, hide_none] at this
  exact this
theorem Ord.unlock0 {d : Addr} {u : HO} {od : Obj} (h : H d = some (.frz od u)) (di : isDi u = true) : Ord H (upd H d u) := by
  have := Ord.unlock (X := fun _ => False) h di
  rw [hide_none, hide_none] at this
  exact this
/-- one tracked thing that nobody's slot owns changes its lock -/
theorem Rel.relock {d : Addr} {u u' : HO} (r : Rel K κ ρ Wo σ H) (h : H d = some u) (nw : ¬ Wo d) (nt : isT u' = false) (o1 : Ord (vw κ Wo H) (vw κ Wo (upd H d u'))) (o2 : Ord H (upd H d u')) : Rel K κ ρ Wo σ (upd H d u') where
  len := r.len
  sh := fun i d e => let ⟨v, e1, q⟩ := r.sh i d e; ⟨v, e1, q.mono o1⟩
  xc := fun i d e => let ⟨e1, q⟩ := r.xc i d e; ⟨e1, q.mono o1⟩
  ow := fun i t d' e => let ⟨l, o, e1, w, h1, c, k⟩ := r.ow i t d' e; ⟨l, o, e1, w, by rw [upd_ne (fun z => nw (by rw [← z]; exact w))]; exact h1, c.mono o1, k⟩
  dj := r.dj
  bw := r.bw
  bo := r.bo.trans o2
  bd := fun a e => by
    by_cases z : a = d
    · rw [z, upd_same] at e; cases e
    · rw [upd_ne z] at e; exact r.bd a e
  bn := r.bn
  ht := fun a w => by
    by_cases z : a = d
    · rw [z, upd_same]; simp
    · rw [upd_ne z]; exact r.ht a w
  nx := r.nx
  tu := fun a xs w e => by
    by_cases z : a = d
    · rw [z, upd_same] at e
      rw [Option.some.inj e] at nt
      cases nt
    · rw [upd_ne z] at e; exact r.tu a xs w e
  dp := r.dp.keep (fun a w _ => ⟨w, fun u z => by rw [upd_ne (fun e => nw (by rw [← e]; exact w))]; exact z⟩) o1
/-- the heap H' is H, or H with a dict locked -/
inductive Lk (X : Cx) (Wo : Addr → Prop) (H : Hp) : Hp → Prop
  | same : Lk X Wo H H
  | lock {d : Addr} {od : Obj} {u : HO} (nw : ¬ Wo d) (h : H d = some u) (di : isDi u = true) (n : ∀ o' u', X.H_0 d ≠ some (.frz o' u')) : Lk X Wo H (upd H d (.frz od u))
theorem Lk.rel {H' : Hp} (l : Lk X Wo H H') (r : Rel K κ ρ Wo σ H) : Rel K κ ρ Wo σ H' := by
  cases l with
  | same => exact r
  | lock nw h di n => exact r.relock h nw rfl (Ord.lock h di) (Ord.lock0 h di)
def unD (X : Cx) (D : Ends) : Ends := ⟨fun σ' => UnL X (D.nx σ'), fun v => UnL X (D.rt v), fun σ' => UnL X (D.bk σ'), fun σ' => UnL X (D.ct σ')⟩
theorem Lk.back {H' : Hp} (l : Lk X Wo H H') {P : Hp → Prop} {Wo2 : Addr → Prop} {H2 : Hp} {σ2 : L2.St} {ρ2 : Rho} (p : Post Wo H' Wo2 H2) (r : Rel K κ ρ2 Wo2 σ2 H2)
    (h : ∀ H3, Post Wo H Wo2 H3 → Rel K κ ρ2 Wo2 σ2 H3 → Ord (vw κ Wo2 H2) (vw κ Wo2 H3) → (∀ a o, Wo2 a → H2 a = some o → H3 a = some o) → (∀ a o, isF o = false → H2 a = some o → H3 a = some o) → P H3) : UnL X P H2 := by
  cases l with
  | same => exact .inl (h H2 p r (Ord.refl _) (fun _ _ _ e => e) (fun _ _ _ e => e))
  | @lock d od u nw hd di n =>
    have e2 : H2 d = some (.frz od u) := p.fr d _ nw upd_same
    have nw2 : ¬ Wo2 d := fun z => by
      rcases p.wo d z with z | z
      · exact nw z
      · rw [upd_same] at z; cases z
    refine .inr ⟨d, od, u, e2, n, h _ ⟨fun b o nb e => ?_, fun l z => ?_⟩ (r.relock e2 nw2 (isDi_t di) (Ord.unlock e2 di) (Ord.unlock0 e2 di)) (Ord.unlock e2 di) (fun a o w e => ?_) (fun a o f e => ?_)⟩
    · by_cases z : b = d
      · rw [z] at e ⊢; rw [upd_same, ← e, hd]
      · rw [upd_ne z]; exact p.fr b o nb (by rw [upd_ne z]; exact e)
    · rcases p.wo l z with z' | z'
      · exact .inl z'
      · by_cases y : l = d
        · rw [y, upd_same] at z'; cases z'
        · rw [upd_ne y] at z'; exact .inr z'
    · rw [upd_ne (fun z => nw2 (by rw [← z]; exact w))]; exact e
    · rw [upd_ne (fun z => by rw [z, e2] at e; cases e; cases f)]; exact e
theorem Xp.up {S S' H H' : Hp} {e : D} {cls : Value} {dd : Option Addr} (x : Xp K S H e cls dd) (o : Ord S S') : Xp K S' H' e cls dd := Xd.mono o x
theorem EvS.lock {H' : Hp} {r : R Fl} {D : Ends} (l : Lk X Wo H H') (h : EvS K κ W Wo H r D) : EvS K κ (WUn X W) Wo H' r (unD X D) := by
  cases r with
  | ok fl ρ =>
    intro σ2 H2 Wo2 p rel
    cases fl with
    | nx => exact l.back p rel fun H3 p3 r3 o _ _ => h σ2 H3 Wo2 p3 r3
    | bk => exact l.back p rel fun H3 p3 r3 o _ _ => h σ2 H3 Wo2 p3 r3
    | ct => exact l.back p rel fun H3 p3 r3 o _ _ => h σ2 H3 Wo2 p3 r3
    | rt d => exact fun v rp => l.back p rel fun H3 p3 r3 o _ _ => h σ2 H3 Wo2 p3 r3 v (rp.mono o)
    | rf d => exact fun x o w e c => l.back p rel fun H3 p3 r3 or k _ => h σ2 H3 Wo2 p3 r3 x o w (k _ _ w e) (c.mono or)
    | rn d => exact fun v F nd nw rq => l.back p rel fun H3 p3 r3 or k _ => h σ2 H3 Wo2 p3 r3 v F nd nw (rq.mono or fun a m u e => k a u (nw a m) e)
  | er e ρ => exact fun c d σ2 H2 Wo2 p rel x => l.back p rel fun H3 p3 r3 o _ k => h c d σ2 H3 Wo2 p3 r3 (x.up o)
  | st => exact h.elim
/-! ### what is walked -/
/-- J hands out what the data ds say -/
def Iok (K : Fg) (κ : Kp) (Wo : Addr → Prop) (H : Hp) (J : It) (ds : List D) : Prop := ∃ G Y, Walk J ds.length G Y ∧ ∀ (ρ2 : Rho) (Wo2 : Addr → Prop) (σ2 : L2.St) (H2 : Hp), Post Wo H Wo2 H2 → Rel K κ ρ2 Wo2 σ2 H2 →
  G H2 ∧ ∀ (i : Nat) (x : V) (H3 : Hp) (d : D), ds[i]? = some d → Y i H2 x H3 → Same H2 H3 ∧ Rp K (vw κ Wo2 H3) d x
def tiOf (X : Cx) (κ : Kp) (W : WX) (f : M (List D)) : TI := fun σ H R => ∃ ρ Wo, Rel X.K κ ρ Wo σ H ∧ match f ρ with
  | .ok ds ρ' => ∀ J H1 H', Fr Wo H H1 → Rel X.K κ ρ' Wo σ H1 → Lk X Wo H1 H' → Iok X.K κ Wo H' J ds → R J H'
  | .er e ρ' => ∀ cls dd H', Fr Wo H H' → Rel X.K κ ρ' Wo σ H' → Xp X.K (vw κ Wo H') H' e cls dd → W cls dd σ H'
  | .st => False
abbrev QI (X : Cx) (κ : Kp) (W : WX) (tg iter : Expr) (f : M (List D)) : Prop := PI X tg iter (tiOf X κ W f)
theorem PI.imp {tg e : Expr} {t t' : TI} (h : PI X tg e t) (i : ∀ σ H R, t' σ H R → t σ H R) : PI X tg e t' := ⟨fun p s σ H R I q => h.run p s σ H R I (i _ _ _ q)⟩
/-! ### targets -/
def tgOf (K : Fg) (κ : Kp) (vs : List Nat) (g : D → M Unit) : TG := fun v σ H Q => ∃ ρ Wo d, Rel K κ ρ Wo σ H ∧ Rp K (vw κ Wo H) d v ∧ match g d ρ with
  | .ok _ ρ' => ∀ σ', L2.wipe σ' vs = L2.wipe σ vs → Rel K κ ρ' Wo σ' H → Q σ' H
  | _ => False
abbrev QG (X : Cx) (κ : Kp) (vs : List Nat) (tg : Expr) (g : D → M Unit) : Prop := PG X tg (tgOf X.K κ vs g)
theorem wipe_off {σ : L2.St} {i : Nat} : ∀ {vs : List Nat}, i ∉ vs → (L2.wipe σ vs)[i]? = σ[i]?
  | [], _ => rfl
  | v :: vs, h => by
    unfold L2.wipe
    rw [List.getElem?_set_ne (fun z => h (by rw [z]; exact List.mem_cons_self)), wipe_off fun z => h (List.mem_cons_of_mem _ z)]
theorem wipe_on {σ : L2.St} {i : Nat} : ∀ {vs : List Nat}, i ∈ vs → (L2.wipe σ vs)[i]? = (σ[i]?).map fun _ => none
  | [], h => by cases h
  | w :: ws, h => by
    unfold L2.wipe
    by_cases z : w = i
    · subst z
      rw [List.getElem?_set_self']
      by_cases y : w ∈ ws
      · rw [wipe_on y]; cases σ[w]? <;> rfl
      · rw [wipe_off y]; cases σ[w]? <;> rfl
    · rw [List.getElem?_set_ne z]
      rcases List.mem_cons.mp h with y | y
      · exact (z y.symm).elim
      · exact wipe_on y
theorem wipe_set {σ : L2.St} {i : Nat} {x : Option V} {vs : List Nat} (h : i ∈ vs) : L2.wipe (σ.set i x) vs = L2.wipe σ vs := by
  apply List.ext_getElem?
  intro j
  by_cases z : j ∈ vs
  · rw [wipe_on z, wipe_on z]
    by_cases y : i = j
    · subst y; rw [List.getElem?_set_self']; cases σ[i]? <;> rfl
    · rw [List.getElem?_set_ne y]
  · rw [wipe_off z, wipe_off z, List.getElem?_set_ne (fun y => z (by rw [← y]; exact h))]
theorem PG.imp {tg : Expr} {t t' : TG} (h : PG X tg t) (i : ∀ v σ H Q, t' v σ H Q → t v σ H Q) : PG X tg t' := ⟨fun p s σ H v u Q I r q => h.run p s σ H v u Q I r (i _ _ _ _ q)⟩
def gN (i : Nat) : D → M Unit := fun d ρ => .ok () (ρ.set i (.sh d))
theorem qg_name (i : Nat) {x : Str} {pos : Pos} {vs : List Nat} (hm : i ∈ vs) (hN : X.N.Nodup) (hi : X.N[i]? = some x := by rfl) (hx : Loc X.env.scope x := by first | exact .inl rfl | exact .inr rfl) (hf : X.fn x = true ∨ X.env.scope.names.lookup x = some .local := by first | exact .inl rfl | exact .inr rfl) :
    QG X κ vs (.Name x pos) (gN i) := PG.imp (pg_name hN hi hx hf) fun v σ H Q ⟨ρ, Wo, d, rel, rp, q⟩ => q _ (wipe_set hm) (rel.set rp)
/-- a, b = a tuple of two -/
def gT2 (g1 g2 : D → M Unit) : D → M Unit := fun d => match d with
  | .tup [x, y] => bnd (g1 x) fun _ => g2 y
  | _ => stuck
theorem tg_seq {vs : List Nat} {τ : L2.St} {g1 : D → M Unit} {k : M Unit} {ρ : Rho} {d : D} {v : V} {Q : L2.St → Hp → Prop} (ht : L2.wipe σ vs = L2.wipe τ vs) (rel : Rel K κ ρ Wo σ H) (rp : Rp K (vw κ Wo H) d v) (q : match bnd (g1 d) (fun _ => k) ρ with
      | .ok _ ρ' => ∀ σ', L2.wipe σ' vs = L2.wipe τ vs → Rel K κ ρ' Wo σ' H → Q σ' H
      | _ => False) {Rz : L2.St → Hp → Prop} (i : ∀ σ1 ρ1, L2.wipe σ1 vs = L2.wipe τ vs → Rel K κ ρ1 Wo σ1 H → (match k ρ1 with
      | .ok _ ρ' => ∀ σ', L2.wipe σ' vs = L2.wipe τ vs → Rel K κ ρ' Wo σ' H → Q σ' H
      | _ => False) → Rz σ1 H) : tgOf K κ vs g1 v σ H Rz := by
  refine ⟨ρ, Wo, d, rel, rp, ?_⟩
  cases h1 : g1 d ρ with
  | ok u ρ1 =>
    have e : bnd (g1 d) (fun _ => k) ρ = k ρ1 := by unfold bnd; rw [h1]; rfl
    rw [e] at q
    exact fun σ1 w1 rel1 => i σ1 ρ1 (w1.trans ht) rel1 q
  | er e ρ1 =>
    have e : bnd (g1 d) (fun _ => k) ρ = .er e ρ1 := by unfold bnd; rw [h1]; rfl
    rw [e] at q
    exact q.elim
  | st =>
    have e : bnd (g1 d) (fun _ => k) ρ = .st := by unfold bnd; rw [h1]; rfl
    rw [e] at q
    exact q.elim
theorem qg_t2 {vs : List Nat} {e1 e2 : Expr} {k : Nat} {pos : Pos} {g1 g2 : D → M Unit} (hc : X.calm = true) (h1 : QG X κ vs e1 g1) (h2 : QG X κ vs e2 g2) (hn : (assignEach [e1, e2] X.env).length = 2 := by rfl) (hst : (assignEach [e1, e2] X.env).findIdx? (·.1) = none := by rfl)
    (hs : (assignEach [e1, e2] X.env).map (·.2) = assign e1 X.env :: (assignEach [e2] X.env).map (·.2) := by rfl) (hs2 : (assignEach [e2] X.env).map (·.2) = assign e2 X.env :: (assignEach [] X.env).map (·.2) := by rfl) : QG X κ vs (.Tuple [e1, e2] k pos) (gT2 g1 g2) :=
  PG.imp (pg_tup hc (pgs_cons h1 (pgs_cons h2 pgs_nil hs2) hs) hn hst) fun v σ H Q ⟨ρ, Wo, d, rel, rp, q⟩ => by
    by_cases hd : ∃ x y, d = .tup [x, y]
    · obtain ⟨x, y, rfl⟩ := hd
      have q : match bnd (g1 x) (fun _ => g2 y) ρ with
        | .ok _ ρ' => ∀ σ', L2.wipe σ' vs = L2.wipe σ vs → Rel X.K κ ρ' Wo σ' H → Q σ' H
        | _ => False := q
      simp only [Rp] at rp
      obtain ⟨a, vs, rfl, h, rs⟩ := rp
      simp only [Rps] at rs
      obtain ⟨v1, r1, rfl, p1, v2, r2, rfl, p2, rfl⟩ := rs
      refine ⟨a, _, rfl, .inl (.inl (hide_some h).2), rfl, v1, _, rfl, tg_seq rfl rel p1 q fun σ1 ρ1 w1 rel1 q1 => ⟨v2, _, rfl, ρ1, Wo, y, rel1, p2, ?_⟩⟩
      cases h2 : g2 y ρ1 with
      | ok u ρ2 => rw [h2] at q1; exact fun σ2 w2 rel2 => ⟨rfl, q1 σ2 (w2.trans w1) rel2⟩
      | er e ρ2 => rw [h2] at q1; exact q1
      | st => rw [h2] at q1; exact q1
    · have e : gT2 g1 g2 d = stuck := by
        unfold gT2
        split
        · exact (hd ⟨_, _, rfl⟩).elim
        · rfl
      rw [e] at q
      exact q.elim
/-! ### the loop -/
def forD (tg : D → M Unit) (body : M Fl) : List D → M Fl
  | [] => ret .nx
  | d :: ds => fun ρ => match tg d ρ with
    | .ok _ ρ1 => (match body ρ1 with
      | .ok .nx ρ2 => forD tg body ds ρ2
      | .ok .ct ρ2 => forD tg body ds ρ2
      | .ok .bk ρ2 => .ok .nx ρ2
      | r => r)
    | _ => .st
def gFor (fi : M (List D)) (tg : D → M Unit) (body : M Fl) : M Fl := bnd fi (forD tg body)
theorem drop_cons {α : Type} {l : List α} {i : Nat} (h : i < l.length) : l.drop i = l[i] :: l.drop (i + 1) := List.drop_eq_getElem_cons h
theorem for_core {vs : List Nat} {g : M Fl} {tg : D → M Unit} {D' : Ends} {J : It} {ds : List D} (ik : Iok K κ Wo H J ds) (rel : Rel K κ ρ Wo σ H) (q : EvS K κ W Wo H (forD tg g ds ρ) D') :
    ∃ Wf : Nat → Nat → L2.St → Hp → Prop, (∃ m, Wf 0 m σ H) ∧ ∀ i m σ H, Wf i m σ H → (J.stop i H ∧ D'.nx σ H) ∨ (J.go i H ∧ ∃ N : L2.St → Hp → Prop, (∀ σ' H', N σ' H' → ∃ m', m' < m ∧ Wf (i + 1) m' σ' H') ∧
      ∀ x H', J.yld i H x H' → tgOf K κ vs tg x σ H' fun σ2 H2 => tsOf K κ W g { D' with nx := N, ct := N, bk := D'.nx } σ2 H2) := by
  obtain ⟨G, Y, wk, hI⟩ := ik
  refine for_it wk (fun i σ2 H2 => ∃ ρ2 Wo2, Post Wo H Wo2 H2 ∧ Rel K κ ρ2 Wo2 σ2 H2 ∧ EvS K κ W Wo2 H2 (forD tg g (ds.drop i) ρ2) D') ⟨ρ, Wo, .refl, rel, by rw [List.drop_zero]; exact q⟩ ?_ ?_ ?_
  · rintro i σ2 H2 hi ⟨ρ2, Wo2, p, r2, _⟩
    exact (hI ρ2 Wo2 σ2 H2 p r2).1
  · rintro i x σ2 H2 H3 hi ⟨ρ2, Wo2, p, r2, q2⟩ y
    obtain ⟨same, rp⟩ := (hI ρ2 Wo2 σ2 H2 p r2).2 i x H3 ds[i] (by simp [hi]) y
    refine ⟨ρ2, Wo2, ds[i], r2.same same, rp, ?_⟩
    rw [drop_cons hi] at q2
    have q2 : EvS K κ W Wo2 H2 (match tg ds[i] ρ2 with
      | .ok _ ρ1 => (match g ρ1 with
        | .ok .nx ρ2 => forD tg g (ds.drop (i + 1)) ρ2
        | .ok .ct ρ2 => forD tg g (ds.drop (i + 1)) ρ2
        | .ok .bk ρ2 => .ok .nx ρ2
        | r => r)
      | _ => .st) D' := q2
    have p3 : Post Wo2 H2 Wo2 H3 := Post.of (Fr.same same)
    cases ht : tg ds[i] ρ2 with
    | ok u ρ3 =>
      rw [ht] at q2
      have q2 := EvS.post p3 q2
      intro σ3 _ rel3
      refine ⟨ρ3, Wo2, rel3, ?_⟩
      cases hb : g ρ3 with
      | ok fl ρ4 =>
        simp only [hb] at q2
        cases fl with
        | nx => exact fun σ4 H4 Wo4 p4 rel4 => ⟨ρ4, Wo4, (p.trans p3).trans p4, rel4, EvS.post p4 q2⟩
        | ct => exact fun σ4 H4 Wo4 p4 rel4 => ⟨ρ4, Wo4, (p.trans p3).trans p4, rel4, EvS.post p4 q2⟩
        | bk => exact q2
        | rt d => exact q2
        | rf d => exact q2
        | rn d => exact q2
      | er e ρ4 => simp only [hb] at q2; exact q2
      | st => simp only [hb] at q2; exact q2
    | er e ρ3 => rw [ht] at q2; exact q2.elim
    | st => rw [ht] at q2; exact q2.elim
  · rintro σ2 H2 ⟨ρ2, Wo2, p, r2, q2⟩
    rw [List.drop_length] at q2
    exact q2 σ2 H2 Wo2 .refl r2
theorem qs_for (vs : List Nat) {tg iter : Expr} {body : List Stmt} {fi : M (List D)} {gt : D → M Unit} {g : M Fl} {pos : Pos} (hp : PassesOwn (model X.prog X.w) X.A X.env X.xe) (hc : X.calm = true) (hi : QI X κ (WUn X W) tg iter fi) (hg : QG X κ vs tg gt) (hb : QSs X κ (WUn X W) body g)
    (hs : ∀ x, foldedSetIterable iter X.env x = pure x := by intro _; rfl) : QS X κ W (.For tg iter body [] pos) (gFor fi gt g) :=
  PS.imp (ps_unl (ps_for hp hc hi hg hb hs)) fun D σ H ⟨ρ, Wo, rel, q⟩ => by
    refine ⟨ρ, Wo, rel, ?_⟩
    have q : EvS X.K κ W Wo H ((fi ρ).bind (forD gt g)) D := q
    cases hf : fi ρ with
    | ok ds ρ1 =>
      rw [hf] at q
      exact fun J H1 H' fr rel1 lk ik => for_core ik (lk.rel rel1) (EvS.lock lk (EvS.post (Post.of fr) q))
    | er e ρ1 =>
      rw [hf] at q
      exact fun cls dd H' fr rel1 x => .inl (q cls dd σ H' Wo (Post.of fr) rel1 x)
    | st => rw [hf] at q; exact q.elim
end
end Qy

set_option Elab.async false
set_option linter.all false
set_option maxRecDepth 100000
/-! Q13: what is walked. -/
namespace Qy
open PySem PySem.Spec L2
section
variable {X : Cx} {κ : Kp} {W : WX} {K : Fg} {Wo : Addr → Prop} {σ : L2.St} {H : Hp} {ρ : Rho} {tg e e2 : Expr} {f f2 : M D} {pos p : Pos}
theorem piOr {w1 w2 : TI} (h1 : PI X tg e w1) (h2 : PI X tg e w2) : PI X tg e (fun σ H R => w1 σ H R ∨ w2 σ H R) := ⟨fun pins s σ H R I q => q.elim (h1.run pins s σ H R I) (h2.run pins s σ H R I)⟩
/-- a dict is locked behind the expression that gives it -/
theorem pe_lockIn {t : TE} (h : PE X e t) : PE X e (fun σ H Q => t σ H fun v H1 => Q v H1 ∨ ∃ d u, H1 d = some u ∧ Mut (some u) ∧ ∀ od, (∀ o' u', X.H_0 d ≠ some (.frz o' u')) → Q v (upd H1 d (.frz od u))) :=
  ⟨fun pins s σ H Q I q => thn (h.run pins s σ H _ I q) fun v s1 ⟨x, H1, I1, r, q⟩ => by
    rcases q with q | ⟨d, u, hd, mu, q⟩
    · exact ⟨x, H1, I1, r, q⟩
    · obtain ⟨od, I2⟩ := I1.lock hd mu
      exact ⟨x, _, I2, r, q od (I1.nofrz hd mu)⟩⟩
theorem iok_list {a : Addr} {vs : List V} {ds : List D} (h : vw κ Wo H a = some (.lst vs)) (rs : Rps K (vw κ Wo H) ds vs) : Iok K κ Wo H (Itl K a) ds := by
  refine ⟨fun H => SqL K H a vs, YAt vs, by rw [rs.length]; exact walk_list (K := K) (a := a) (xs := vs), fun ρ2 Wo2 σ2 H2 p r2 => ⟨.inl (.inl (hide_some ((Ord.post p).s _ _ rfl h)).2), fun i x H3 d hd y => ?_⟩⟩
  obtain ⟨rfl, hx⟩ := y
  obtain ⟨v, hv, rp⟩ := (rs.mono (Ord.post p)).get hd
  rw [hx] at hv; cases hv
  exact ⟨.refl _, rp⟩
theorem iok_tup {a : Addr} {vs : List V} {ds : List D} (h : vw κ Wo H a = some (.tup vs)) (rs : Rps K (vw κ Wo H) ds vs) : Iok K κ Wo H (Itt K a) ds := by
  refine ⟨fun H => SqT K H a vs, YAt vs, by rw [rs.length]; exact walk_tup (K := K) (a := a) (xs := vs), fun ρ2 Wo2 σ2 H2 p r2 => ⟨.inl (.inl (hide_some ((Ord.post p).s _ _ rfl h)).2), fun i x H3 d hd y => ?_⟩⟩
  obtain ⟨rfl, hx⟩ := y
  obtain ⟨v, hv, rp⟩ := (rs.mono (Ord.post p)).get hd
  rw [hx] at hv; cases hv
  exact ⟨.refl _, rp⟩
def signs (s : Str) : List D := s.cps.toList.map fun c => .str ⟨#[c]⟩
theorem iok_str {s : Str} : Iok K κ Wo H (Its s) (signs s) := by
  refine ⟨_, _, by rw [show (signs s).length = s.cps.size by simp [signs]]; exact walk_str (z := s), fun ρ2 Wo2 σ2 H2 p r2 => ⟨trivial, fun i x H3 d hd y => ?_⟩⟩
  obtain ⟨rfl, c, hc, rfl⟩ := y
  have : (signs s)[i]? = some (.str ⟨#[c]⟩) := by simp [signs, hc]
  rw [this] at hd; cases hd
  exact ⟨.refl _, rp_str _⟩
theorem frz_stays {Wo2 : Addr → Prop} {H2 : Hp} {a : Addr} {o : HO} (nw : ¬ Wo a) (h : H a = some o) (p : Post Wo H Wo2 H2) : H2 a = some o := p.fr a o nw h
theorem iok_keys {a : Addr} {o : Obj} {kvs : List (Key × V)} (nw : ¬ Wo a) (h : H a = some (.frz o (.dK kvs))) : Iok K κ Wo H (Itk a o kvs) ((kvs.map (·.1)).map kD) := by
  refine ⟨_, _, by rw [List.length_map, List.length_map]; exact walk_keys (d := a) (o := o) (kvs := kvs), fun ρ2 Wo2 σ2 H2 p r2 => ⟨frz_stays nw h p, fun i x H3 d hd y => ?_⟩⟩
  obtain ⟨rfl, k, v, hk, rfl⟩ := y
  have : ((kvs.map (·.1)).map kD)[i]? = some (kD k) := by simp [hk]
  rw [this] at hd; cases hd
  exact ⟨.refl _, rp_k k⟩
theorem iok_keysT {a : Addr} {o : Obj} {kvs : List (List Key × V)} (nw : ¬ Wo a) (h : H a = some (.frz o (.dT kvs))) : Iok K κ Wo H (Itkt a o kvs) ((kvs.map (·.1)).map kTD) := by
  refine ⟨_, _, by rw [List.length_map, List.length_map]; exact walk_keysT (d := a) (o := o) (kvs := kvs), fun ρ2 Wo2 σ2 H2 p r2 => ⟨frz_stays nw h p, fun i x H3 d hd y => ?_⟩⟩
  obtain ⟨rfl, k, v, q, hk, rfl, hq⟩ := y
  have : ((kvs.map (·.1)).map kTD)[i]? = some (kTD k) := by simp [hk]
  rw [this] at hd; cases hd
  refine ⟨.refl _, r2.seen (imm_kT k) ?_⟩
  simp only [kTD, Rp]
  exact ⟨q, _, rfl, hq, rps_k _⟩
def prs (ks : List Key) (ds : List D) : List D := (ks.zip ds).map fun z => .tup [kD z.1, z.2]
theorem pair_new {Wo2 : Addr → Prop} {σ2 : L2.St} {ρ2 : Rho} {H2 : Hp} {T : Addr} {x y : V} {dx dy : D} (r2 : Rel K κ ρ2 Wo2 σ2 H2) (hT : H2 T = none) (rx : Rp K (vw κ Wo2 H2) dx x) (ry : Rp K (vw κ Wo2 H2) dy y) :
    Same H2 (upd H2 T (.tup [x, y])) ∧ Rp K (vw κ Wo2 (upd H2 T (.tup [x, y]))) (.tup [dx, dy]) (.ref T) := by
  refine ⟨Same.new hT, ?_⟩
  simp only [Rp]
  exact ⟨T, _, rfl, r2.new_at hT upd_same, rps_cons (rx.mono (Ord.vws (Same.new hT))) (rps_cons (ry.mono (Ord.vws (Same.new hT))) rps_nil)⟩
def enum (ds : List D) : List D := ds.mapIdx fun i d => .tup [.int (i : Nat), d]
theorem iok_enum {a : Addr} {vs : List V} {ds : List D} (h : vw κ Wo H a = some (.lst vs)) (rs : Rps K (vw κ Wo H) ds vs) : Iok K κ Wo H (Ite K a) (enum ds) := by
  refine ⟨fun H => SqL K H a vs, YPair (fun i => some (.int (i : Nat))) (fun i => vs[i]?), by rw [show (enum ds).length = vs.length by simp [enum, rs.length]]; exact walk_enum (K := K) (a := a) (xs := vs), fun ρ2 Wo2 σ2 H2 p r2 => ⟨.inl (.inl (hide_some ((Ord.post p).s _ _ rfl h)).2), fun i x H3 d hd y => ?_⟩⟩
  obtain ⟨T, kx, vx, rfl, hT, rfl, h1, h2⟩ := y
  cases h1
  obtain ⟨dd, hdd, rp⟩ := (rs.mono (Ord.post p)).got h2
  have : (enum ds)[i]? = some (.tup [.int (i : Nat), dd]) := by simp [enum, hdd]
  rw [this] at hd; cases hd
  exact pair_new r2 hT (rp_int _) rp
theorem iok_enumT {a : Addr} {vs : List V} {ds : List D} (h : vw κ Wo H a = some (.tup vs)) (rs : Rps K (vw κ Wo H) ds vs) : Iok K κ Wo H (IteT K a) (enum ds) := by
  refine ⟨fun H => SqT K H a vs, YPair (fun i => some (.int (i : Nat))) (fun i => vs[i]?), by rw [show (enum ds).length = vs.length by simp [enum, rs.length]]; exact walk_enumT (K := K) (a := a) (xs := vs), fun ρ2 Wo2 σ2 H2 p r2 => ⟨.inl (.inl (hide_some ((Ord.post p).s _ _ rfl h)).2), fun i x H3 d hd y => ?_⟩⟩
  obtain ⟨T, kx, vx, rfl, hT, rfl, h1, h2⟩ := y
  cases h1
  obtain ⟨dd, hdd, rp⟩ := (rs.mono (Ord.post p)).got h2
  have : (enum ds)[i]? = some (.tup [.int (i : Nat), dd]) := by simp [enum, hdd]
  rw [this] at hd; cases hd
  exact pair_new r2 hT (rp_int _) rp
theorem iok_range {lo : Int} {n : Nat} : Iok K κ Wo H (Itr lo n) ((List.range n).map fun i => D.int (lo + (i : Nat))) := by
  refine ⟨_, _, by rw [List.length_map, List.length_range]; exact walk_range (lo := lo) (n := n), fun ρ2 Wo2 σ2 H2 p r2 => ⟨trivial, fun i x H3 d hd y => ?_⟩⟩
  obtain ⟨rfl, rfl⟩ := y
  have hi : i < n := by
    have := (List.getElem?_eq_some_iff.mp hd).1
    simpa using this
  have : ((List.range n).map fun i => D.int (lo + (i : Nat)))[i]? = some (.int (lo + (i : Nat))) := by simp [hi]
  rw [this] at hd; cases hd
  exact ⟨.refl _, rp_int _⟩
theorem Rel.nwo (r : Rel K κ ρ Wo σ H) {a : Addr} {o : HO} (h : vw κ Wo H a = some o) : ¬ Wo a := fun z => by
  have e : vw κ Wo H a = none := hide_in (X := fun b => Wo b ∨ κ.Xh b) (H := H) (.inl z)
  rw [e] at h; cases h
/-- a dict that is read is locked, or was -/
theorem lock_cases {a : Addr} {u : HO} (r : Rel K κ ρ Wo σ H) (h : Rd (vw κ Wo H) a u) (di : isDi u = true) : ¬ Wo a ∧ (H a = some u ∨ ∃ o, H a = some (.frz o u)) := by
  rcases h with h | ⟨o, h⟩
  · exact ⟨r.nwo h, .inl (hide_some h).2⟩
  · exact ⟨r.nwo h, .inr ⟨o, (hide_some h).2⟩⟩
/-! ### for x in e -/
def seqD : D → Option (List D)
  | .lst ds => some ds
  | .tup ds => some ds
  | .str s => some (signs s)
  | .dk ks _ => some (ks.map kD)
  | .dt ks _ => some (ks.map kTD)
  | _ => none
def gSeqI (f : M D) : M (List D) := bnd f fun d => ofO (seqD d)
theorem qi_seq (he : QE X κ W e f) : QI X κ W tg e (gSeqI f) :=
  PI.imp (piOr (pi_list he) (piOr (pi_tup he) (piOr (pi_str he) (pi_keys (pe_lockIn he))))) fun σ H R h => by
    have hd : ∀ d ρ1, (∃ ρ Wo, Rel X.K κ ρ Wo σ H ∧ f ρ = .ok d ρ1) ∨ True := fun _ _ => .inr trivial
    obtain ⟨ρ, Wo, rel, q⟩ := id h
    cases hf : f ρ with
    | ok d ρ1 =>
      have same : ∀ {Rz : VK}, (∀ v H1, Fr Wo H H1 → Rel X.K κ ρ1 Wo σ H1 → Rp X.K (vw κ Wo H1) d v →
          (match (ofO (seqD d) ρ1 : Qy.R (List D)) with
            | .ok ds ρ' => ∀ J H1' H', Fr Wo H1 H1' → Rel X.K κ ρ' Wo σ H1' → Lk X Wo H1' H' → Iok X.K κ Wo H' J ds → R J H'
            | .er e ρ' => ∀ cls dd H', Fr Wo H1 H' → Rel X.K κ ρ' Wo σ H' → Xp X.K (vw κ Wo H') H' e cls dd → W cls dd σ H'
            | .st => False) → Rz v H1) → teOf X.K κ W f σ H Rz := fun {Rz} i => by
        refine ⟨ρ, Wo, rel, ?_⟩
        rw [hf]
        intro v H1 fr rel1 rp
        have eb : gSeqI f ρ = ofO (seqD d) ρ1 := by unfold gSeqI bnd; rw [hf]; rfl
        rw [eb] at q
        refine i v H1 fr rel1 rp ?_
        cases hk : (ofO (seqD d) ρ1 : Qy.R (List D)) with
        | ok ds ρ2 => rw [hk] at q; exact fun J H2 H' f2 => q J H2 H' (fr.trans f2)
        | er e ρ2 => rw [hk] at q; exact fun c d H' f2 => q c d H' (fr.trans f2)
        | st => rw [hk] at q; exact q
      cases d with
      | lst ds =>
        refine .inl (same fun v H1 fr rel1 rp q1 => ?_)
        simp only [Rp] at rp
        obtain ⟨a, vs, rfl, ha, rs⟩ := rp
        exact ⟨a, rfl, ⟨vs, .inl (.inl (hide_some ha).2)⟩, q1 _ H1 H1 (.refl _) rel1 .same (iok_list ha rs)⟩
      | tup ds =>
        refine .inr (.inl (same fun v H1 fr rel1 rp q1 => ?_))
        simp only [Rp] at rp
        obtain ⟨a, vs, rfl, ha, rs⟩ := rp
        exact ⟨a, rfl, ⟨vs, .inl (.inl (hide_some ha).2)⟩, q1 _ H1 H1 (.refl _) rel1 .same (iok_tup ha rs)⟩
      | str s =>
        refine .inr (.inr (.inl (same fun v H1 fr rel1 rp q1 => ?_)))
        simp only [Rp] at rp
        exact ⟨s, rp, q1 _ H1 H1 (.refl _) rel1 .same iok_str⟩
      | dk ks ds =>
        refine .inr (.inr (.inr (same fun v H1 fr rel1 rp q1 => ?_)))
        simp only [Rp] at rp
        obtain ⟨a, kvs, rfl, ha, rfl, rs⟩ := rp
        obtain ⟨nw, h1 | ⟨o, h1⟩⟩ := lock_cases rel1 ha rfl
        · refine .inr ⟨a, _, h1, trivial, fun od n => ⟨a, od, rfl, .inl ⟨kvs, upd_same, q1 _ H1 _ (.refl _) rel1 (.lock nw h1 rfl n) (iok_keys nw upd_same)⟩⟩⟩
        · exact .inl ⟨a, o, rfl, .inl ⟨kvs, h1, q1 _ H1 H1 (.refl _) rel1 .same (iok_keys nw h1)⟩⟩
      | dt ks ds =>
        refine .inr (.inr (.inr (same fun v H1 fr rel1 rp q1 => ?_)))
        simp only [Rp] at rp
        obtain ⟨a, kvs, rfl, ha, rfl, rs⟩ := rp
        obtain ⟨nw, h1 | ⟨o, h1⟩⟩ := lock_cases rel1 ha rfl
        · refine .inr ⟨a, _, h1, trivial, fun od n => ⟨a, od, rfl, .inr ⟨kvs, upd_same, q1 _ H1 _ (.refl _) rel1 (.lock nw h1 rfl n) (iok_keysT nw upd_same)⟩⟩⟩
        · exact .inl ⟨a, o, rfl, .inr ⟨kvs, h1, q1 _ H1 H1 (.refl _) rel1 .same (iok_keysT nw h1)⟩⟩
      | _ =>
        have eb : gSeqI f ρ = .st := by unfold gSeqI bnd; rw [hf]; rfl
        rw [eb] at q
        exact q.elim
    | er e ρ1 =>
      have eb : gSeqI f ρ = .er e ρ1 := by unfold gSeqI bnd; rw [hf]; rfl
      rw [eb] at q
      exact .inl ⟨ρ, Wo, rel, by rw [hf]; exact q⟩
    | st =>
      have eb : gSeqI f ρ = .st := by unfold gSeqI bnd; rw [hf]; rfl
      rw [eb] at q
      exact q.elim
end
end Qy

set_option Elab.async false
set_option linter.all false
set_option maxRecDepth 100000
/-! Q14: enumerate, range, items, values; borrowed slots walked. -/
namespace Qy
open PySem PySem.Spec L2
section
variable {X : Cx} {κ : Kp} {W : WX} {K : Fg} {Wo : Addr → Prop} {σ : L2.St} {H : Hp} {ρ : Rho} {tg e e2 : Expr} {f f2 : M D} {pos p : Pos}
def EvI (X : Cx) (κ : Kp) (W : WX) (Wo : Addr → Prop) (σ : L2.St) (H : Hp) (r : Qy.R (List D)) (R : It → Hp → Prop) : Prop := match r with
  | .ok ds ρ' => ∀ J H1 H', Fr Wo H H1 → Rel X.K κ ρ' Wo σ H1 → Lk X Wo H1 H' → Iok X.K κ Wo H' J ds → R J H'
  | .er e ρ' => ∀ cls dd H', Fr Wo H H' → Rel X.K κ ρ' Wo σ H' → Xp X.K (vw κ Wo H') H' e cls dd → W cls dd σ H'
  | .st => False
theorem EvI.fr {H' : Hp} {r : Qy.R (List D)} {R : It → Hp → Prop} (f : Fr Wo H H') (h : EvI X κ W Wo σ H r R) : EvI X κ W Wo σ H' r R := by
  cases r with
  | ok a ρ => exact fun J H1 H2 f2 => h J H1 H2 (f.trans f2)
  | er e ρ => exact fun c d H2 f2 => h c d H2 (f.trans f2)
  | st => exact h
theorem ti_ev {fi : M (List D)} {R : It → Hp → Prop} (h : tiOf X κ W fi σ H R) : ∃ ρ Wo, Rel X.K κ ρ Wo σ H ∧ EvI X κ W Wo σ H (fi ρ) R := h
theorem EvG.bindI {α β : Type} {Rr : Hp → Hp → α → β → Prop} {r : Qy.R α} {k : α → M (List D)} {R : It → Hp → Prop} (h : EvI X κ W Wo σ H (r.bind k) R) {Rz : β → Hp → Prop}
    (i : ∀ b H1 a ρ1, Fr Wo H H1 → Rel X.K κ ρ1 Wo σ H1 → Rr (vw κ Wo H1) H1 a b → EvI X κ W Wo σ H1 (k a ρ1) R → Rz b H1) : EvG Rr X.K κ W Wo σ H r Rz := by
  cases r with
  | ok a ρ => exact fun b H1 f rel rr => i b H1 a ρ f rel rr (EvI.fr f h)
  | er e ρ => exact h
  | st => exact h.elim
/-! ### borrowed -/
/-! ### built-ins of one argument -/
def gI1 (f : M D) (k : D → Option (List D)) : M (List D) := bnd f fun d => ofO (k d)
/-- an iterable made of one value -/
theorem ti1 {k : D → Option (List D)} {R : It → Hp → Prop} {r : V → Hp → Prop} (h : tiOf X κ W (gI1 f k) σ H R)
    (i : ∀ (ρ1 : Rho) (Wo : Addr → Prop) (v : V) (H1 : Hp) (d : D) (ds : List D), k d = some ds → Rel X.K κ ρ1 Wo σ H1 → Rp X.K (vw κ Wo H1) d v → (∀ J, Iok X.K κ Wo H1 J ds → R J H1) → r v H1) :
    tCons (teOf X.K κ W f) tNil σ H (fun vs H1 => ∃ v, vs = [v] ∧ r v H1) := by
  obtain ⟨ρ, Wo, rel, q⟩ := ti_ev h
  refine ⟨ρ, Wo, rel, EvG.bindI q fun v H1 d ρ1 fr rel1 rp q1 => ⟨v, rfl, ?_⟩⟩
  cases hk : k d with
  | none => simp only [hk, ofO] at q1; exact q1.elim
  | some ds =>
    simp only [hk, ofO] at q1
    exact i ρ1 Wo v H1 d ds hk rel1 rp fun J ik => q1 J H1 H1 (.refl _) rel1 .same ik
def enumD : D → Option (List D)
  | .lst ds => some (enum ds)
  | .tup ds => some (enum ds)
  | _ => none
theorem te_mono {Q Q' : VK} (h : teOf X.K κ W f σ H Q) (i : ∀ v H1, Q v H1 → Q' v H1) : teOf X.K κ W f σ H Q' := by
  obtain ⟨ρ, Wo, rel, q⟩ := h
  exact ⟨ρ, Wo, rel, q.imp i⟩
theorem qi_enum {tpos : Pos} {elts : List Expr} {kk : Nat} (ha : QE X κ W e f) (hg : Gl X "enumerate" := by rfl) (hm : X.mg "enumerate" = none := by rfl) (hs : starEach [e] X.env = [(false, eval e X.env)] := by rfl) :
    QI X κ W (.Tuple elts kk tpos) (.Call (.Name "enumerate" p) [e] [] pos) (gI1 f enumD) :=
  PI.imp (pi_enumQ hg hm (pa_cons ha pa_nil hs) hs) fun σ H R h => by
    refine te_mono (ti1 (r := fun v H1 => ∃ a xs, v = .ref a ∧ ((SqL X.K H1 a xs ∧ R (Ite X.K a) H1) ∨ (SqT X.K H1 a xs ∧ R (IteT X.K a) H1))) h fun ρ1 Wo v H1 d ds hk rel1 rp q1 => ?_) fun v H1 ⟨w, e, a, xs, e2, z⟩ => ⟨a, xs, by cases e; rw [e2], z⟩
    cases d with
    | lst es =>
      cases hk
      simp only [Rp] at rp
      obtain ⟨a, vs, rfl, ha, rs⟩ := rp
      exact ⟨a, vs, rfl, .inl ⟨.inl (.inl (hide_some ha).2), q1 _ (iok_enum ha rs)⟩⟩
    | tup es =>
      cases hk
      simp only [Rp] at rp
      obtain ⟨a, vs, rfl, ha, rs⟩ := rp
      exact ⟨a, vs, rfl, .inr ⟨.inl (.inl (hide_some ha).2), q1 _ (iok_enumT ha rs)⟩⟩
    | _ => cases hk
/-! ### range -/
def rng (a b : Int) : List D := (List.range (b - a).toNat).map fun i => D.int (a + (i : Nat))
def rng1 : D → Option (List D)
  | .int j => if -(2 ^ 62) ≤ j ∧ j < 2 ^ 62 then some (rng 0 j) else none
  | _ => none
theorem qi_rng1 (ha : QE X κ W e f) (hg : Gl X "range" := by rfl) (hm : X.mg "range" = none := by rfl) (hs : starEach [e] X.env = [(false, eval e X.env)] := by rfl) :
    QI X κ W tg (.Call (.Name "range" p) [e] [] pos) (gI1 f rng1) :=
  PI.imp (pi_range1 hg hm (pa_cons ha pa_nil hs) hs) fun σ H R h => by
    refine te_mono (ti1 (r := fun v H1 => ∃ j : Int, v = .int j ∧ -(2 ^ 62) ≤ j ∧ j < 2 ^ 62 ∧ R (Itr 0 j.toNat) H1) h fun ρ1 Wo v H1 d ds hk rel1 rp q1 => ?_) fun v H1 ⟨w, e, j, e2, z⟩ => ⟨j, by cases e; rw [e2], z⟩
    cases d with
    | int j =>
      simp only [rng1] at hk
      split at hk
      · rename_i hj
        cases hk
        simp only [Rp] at rp
        refine ⟨j, rp, hj.1, hj.2, q1 _ ?_⟩
        have : rng 0 j = (List.range j.toNat).map fun i => D.int (0 + (i : Nat)) := by unfold rng; rw [Int.sub_zero]
        rw [this]
        exact iok_range
      · cases hk
    | _ => cases hk
end
end Qy

set_option Elab.async false
set_option linter.all false
set_option maxRecDepth 100000
/-! Q15: list comprehensions. -/
namespace Qy
open PySem PySem.Spec L2
section
variable {X : Cx} {κ : Kp} {W : WX} {K : Fg} {Wo : Addr → Prop} {σ : L2.St} {H : Hp} {ρ : Rho} {tg e e2 : Expr} {f f2 : M D} {pos p : Pos}
/-- one address more that the slots do not see -/
def Kp.hid (κ : Kp) (D : Addr) : Kp := { κ with Xh := fun a => κ.Xh a ∨ a = D }
section
variable {D : Addr} {o : HO}
theorem Rel.enter (r : Rel K κ ρ Wo σ H) (h : H D = none) (ht : isT o = false) : Rel K (κ.hid D) ρ Wo σ (upd H D o) := by
  have key : Ord (vw κ Wo H) (vw (κ.hid D) Wo (upd H D o)) := hide_ord (fun a n hn z => z.elim (fun z => n (.inl z)) fun z => z.elim (fun z => n (.inr z)) fun z => hn (by rw [z]; exact h)) fun a u n e => by
    rw [upd_ne (fun z => by rw [z, h] at e; cases e)]; exact e
  have s : Same H (upd H D o) := Same.new h
  exact {
    len := r.len
    sh := fun i d e => let ⟨v, e1, q⟩ := r.sh i d e; ⟨v, e1, q.mono key⟩
    xc := fun i d e => let ⟨e1, q⟩ := r.xc i d e; ⟨e1, q.mono key⟩
    ow := fun i t d e => let ⟨l, u, e1, w, h1, c, k⟩ := r.ow i t d e; ⟨l, u, e1, w, s _ _ h1, c.mono key, k⟩
    dj := r.dj
    bw := r.bw
    bo := r.bo.trans (Ord.of_same s)
    bd := fun l e => r.bd l (s.free e)
    bn := r.bn
    ht := fun l w => by
      by_cases z : l = D
      · rw [z, upd_same]; simp
      · rw [upd_ne z]; exact r.ht l (w.elim .inl fun w => w.elim .inr fun w => (z w).elim)
    nx := fun l w z => z.elim (r.nx l w) fun z => r.ht l (.inl w) (by rw [z]; exact h)
    tu := fun l xs w e => by
      by_cases z : l = D
      · rw [z, upd_same] at e; rw [Option.some.inj e] at ht; cases ht
      · rw [upd_ne z] at e; exact r.tu l xs (w.elim .inl fun w => w.elim .inr fun w => (z w).elim) e
    dp := r.dp.keep (fun a w _ => ⟨w, fun u z => s _ _ z⟩) key }
theorem Rel.putH (r : Rel K (κ.hid D) ρ Wo σ H) (bD : κ.B D = none) (ht : isT o = false) : Rel K (κ.hid D) ρ Wo σ (upd H D o) := by
  have hd : (κ.hid D).Xh D := .inr rfl
  have key : Ord (vw (κ.hid D) Wo H) (vw (κ.hid D) Wo (upd H D o)) := hide_ord (fun a n _ z => n z) fun a u n e => by
    rw [upd_ne (fun z => n (by rw [z]; exact .inr hd))]; exact e
  have wn : ∀ l, Wo l → l ≠ D := fun l w z => r.nx l w (by rw [z]; exact hd)
  exact {
    len := r.len
    sh := fun i d e => let ⟨v, e1, q⟩ := r.sh i d e; ⟨v, e1, q.mono key⟩
    xc := fun i d e => let ⟨e1, q⟩ := r.xc i d e; ⟨e1, q.mono key⟩
    ow := fun i t d e => let ⟨l, u, e1, w, h1, c, k⟩ := r.ow i t d e; ⟨l, u, e1, w, by rw [upd_ne (wn l w)]; exact h1, c.mono key, k⟩
    dj := r.dj
    bw := r.bw
    bo := ⟨fun a u n e => by
        have ne : a ≠ D := fun z => by
          rw [z] at e
          rcases e with e | ⟨_, e⟩
          · rw [show (κ.hid D).B D = κ.B D from rfl, bD] at e; cases e
          · rw [show (κ.hid D).B D = κ.B D from rfl, bD] at e; cases e
        rcases r.bo.r a u n e with e | ⟨od, e⟩
        · exact .inl (by rw [upd_ne ne]; exact e)
        · exact .inr ⟨od, by rw [upd_ne ne]; exact e⟩, fun a u n e => by
        have ne : a ≠ D := fun z => by
          rw [z, show (κ.hid D).B D = κ.B D from rfl, bD] at e; cases e
        rw [upd_ne ne]; exact r.bo.s a u n e⟩
    bd := fun l e => by
      by_cases z : l = D
      · rw [z]; exact bD
      · rw [upd_ne z] at e; exact r.bd l e
    bn := r.bn
    ht := fun l w => by
      by_cases z : l = D
      · rw [z, upd_same]; simp
      · rw [upd_ne z]; exact r.ht l w
    nx := r.nx
    tu := fun l xs w e => by
      by_cases z : l = D
      · rw [z, upd_same] at e; rw [Option.some.inj e] at ht; cases ht
      · rw [upd_ne z] at e; exact r.tu l xs w e
    dp := r.dp.keep (fun a w _ => ⟨w, fun u z => by rw [upd_ne (wn a w)]; exact z⟩) key }
theorem vw_hid : vw (κ.hid D) Wo H = vw κ (wPlus Wo D) H := by
  funext a
  by_cases h : (Wo a ∨ (κ.hid D).Xh a)
  · rw [show vw (κ.hid D) Wo H a = none from hide_in h]
    refine (hide_in (X := fun a => wPlus Wo D a ∨ κ.Xh a) ?_).symm
    rcases h with h | h | h
    · exact .inl (.inl h)
    · exact .inr h
    · exact .inl (.inr h)
  · rw [show vw (κ.hid D) Wo H a = H a from hide_out h]
    refine (hide_out (X := fun a => wPlus Wo D a ∨ κ.Xh a) fun z => h ?_).symm
    rcases z with (z | z) | z
    · exact .inl z
    · exact .inr (.inr z)
    · exact .inr (.inl z)
theorem Rel.toOwn (r : Rel K (κ.hid D) ρ Wo σ H) (bD : κ.B D = none) (nD : ¬ κ.Xh D) : Rel K κ ρ (wPlus Wo D) σ H where
  len := r.len
  sh := fun i d e => let ⟨v, e1, q⟩ := r.sh i d e; ⟨v, e1, vw_hid ▸ q⟩
  xc := fun i d e => let ⟨e1, q⟩ := r.xc i d e; ⟨e1, vw_hid ▸ q⟩
  ow := fun i t d e => let ⟨l, u, e1, w, h1, c, k⟩ := r.ow i t d e; ⟨l, u, e1, .inl w, h1, vw_hid ▸ c, k⟩
  dj := r.dj
  bw := r.bw
  bo := r.bo
  bd := r.bd
  bn := fun l w => w.elim (r.bn l) fun w => by rw [w]; exact bD
  ht := fun l w => r.ht l (w.elim (fun w => w.elim .inl fun w => .inr (.inr w)) fun w => .inr (.inl w))
  nx := fun l w z => w.elim (fun w => r.nx l w (.inl z)) fun w => nD (by rw [← w]; exact z)
  tu := fun l xs w => r.tu l xs (w.elim (fun w => w.elim .inl fun w => .inr (.inr w)) fun w => .inr (.inl w))
  dp := r.dp.keep (fun a w _ => ⟨.inl w, fun u z => z⟩) (by rw [vw_hid]; exact Ord.refl _)
/-- the heap without D -/
noncomputable def cut (H : Hp) (D : Addr) : Hp := hide (fun a => a = D) H
theorem cut_at : cut H D D = none := hide_in rfl
theorem cut_ne {a : Addr} (h : a ≠ D) : cut H D a = H a := hide_out h
theorem cut_same : Same (cut H D) H := fun a u e => (hide_some e).2
theorem vw_cut : vw κ Wo (cut H D) = vw κ (wPlus Wo D) H := by
  funext a
  by_cases z : a = D
  · rw [z]
    have e1 : vw κ (wPlus Wo D) H D = none := hide_in (.inl (.inr rfl))
    rw [e1]
    by_cases w : Wo D ∨ κ.Xh D
    · exact hide_in w
    · exact (hide_out w).trans cut_at
  · by_cases w : Wo a ∨ κ.Xh a
    · exact (hide_in (X := fun a => Wo a ∨ κ.Xh a) w).trans (hide_in (X := fun a => wPlus Wo D a ∨ κ.Xh a) (w.imp .inl id)).symm
    · exact ((hide_out (X := fun a => Wo a ∨ κ.Xh a) w).trans (cut_ne z)).trans (hide_out (X := fun a => wPlus Wo D a ∨ κ.Xh a) fun y => w (y.imp (fun y => y.elim id fun y => (z y).elim) id)).symm
theorem Rel.cutH (r : Rel K (κ.hid D) ρ Wo σ H) (bD : κ.B D = none) (nD : ¬ κ.Xh D) : Rel K κ ρ Wo σ (cut H D) := by
  have hd : (κ.hid D).Xh D := .inr rfl
  have wn : ∀ l, Wo l → l ≠ D := fun l w z => r.nx l w (by rw [z]; exact hd)
  have ev : vw κ Wo (Qy.cut H D) = vw (κ.hid D) Wo H := vw_cut.trans vw_hid.symm
  exact {
    len := r.len
    sh := fun i d e => let ⟨v, e1, q⟩ := r.sh i d e; ⟨v, e1, by rw [ev]; exact q⟩
    xc := fun i d e => let ⟨e1, q⟩ := r.xc i d e; ⟨e1, by rw [ev]; exact q⟩
    ow := fun i t d e => by
      obtain ⟨l, u, e1, w, h1, c, k⟩ := r.ow i t d e
      exact ⟨l, u, e1, w, by rw [cut_ne (wn l w)]; exact h1, by rw [ev]; exact c, k⟩
    dj := r.dj
    bw := r.bw
    bo := ⟨fun a u n e => by
        have ne : a ≠ D := fun z => by
          rw [z] at e
          rcases e with e | ⟨_, e⟩
          · rw [bD] at e; cases e
          · rw [bD] at e; cases e
        rcases r.bo.r a u n e with e | ⟨od, e⟩
        · exact .inl (by rw [cut_ne ne]; exact e)
        · exact .inr ⟨od, by rw [cut_ne ne]; exact e⟩, fun a u n e => by
        have ne : a ≠ D := fun z => by rw [z, bD] at e; cases e
        rw [cut_ne ne]; exact r.bo.s a u n e⟩
    bd := fun l e => by
      by_cases z : l = D
      · rw [z]; exact bD
      · rw [cut_ne z] at e; exact r.bd l e
    bn := r.bn
    ht := fun l w => by
      by_cases z : l = D
      · exact (w.elim (fun w => (wn l w z).elim) fun w => (nD (by rw [← z]; exact w)).elim)
      · rw [cut_ne z]
        exact r.ht l (w.imp id .inl)
    nx := fun l w z => r.nx l w (.inl z)
    tu := fun l xs w e => r.tu l xs (w.imp id .inl) (cut_same _ _ e)
    dp := r.dp.keep (fun a w _ => ⟨w, fun u z => by rw [cut_ne (wn a w)]; exact z⟩) (by rw [ev]; exact Ord.refl _) }
end
/-! ### slots of the block's own names -/
def wipeR (vs : List Nat) (ρ : Rho) : Rho := ρ.mapIdx fun i s => if i ∈ vs then .no else s
def keepS : Option Slot → Slot
  | some (.sh d) => .sh d
  | some (.bw d) => .bw d
  | _ => .no
def restR (vs : List Nat) (ρ0 ρ : Rho) : Rho := ρ.mapIdx fun i s => if i ∈ vs then keepS ρ0[i]? else s
theorem wipeR_at {vs : List Nat} {i : Nat} {s : Slot} (h : (wipeR vs ρ)[i]? = some s) : (i ∈ vs ∧ s = .no) ∨ (i ∉ vs ∧ ρ[i]? = some s) := by
  unfold wipeR at h
  rw [List.getElem?_mapIdx] at h
  cases hr : ρ[i]? with
  | none => rw [hr] at h; cases h
  | some t =>
    rw [hr] at h
    simp only [Option.map_some, Option.some.injEq] at h
    by_cases hi : i ∈ vs
    · rw [if_pos hi] at h; exact .inl ⟨hi, h.symm⟩
    · rw [if_neg hi] at h; exact .inr ⟨hi, by rw [h]⟩
theorem restR_at {vs : List Nat} {ρ0 : Rho} {i : Nat} {s : Slot} (h : (restR vs ρ0 ρ)[i]? = some s) : (i ∈ vs ∧ s = keepS ρ0[i]?) ∨ (i ∉ vs ∧ ρ[i]? = some s) := by
  unfold restR at h
  rw [List.getElem?_mapIdx] at h
  cases hr : ρ[i]? with
  | none => rw [hr] at h; cases h
  | some t =>
    rw [hr] at h
    simp only [Option.map_some, Option.some.injEq] at h
    by_cases hi : i ∈ vs
    · rw [if_pos hi] at h; exact .inl ⟨hi, h.symm⟩
    · rw [if_neg hi] at h; exact .inr ⟨hi, by rw [h]⟩
theorem Rel.wipe (vs : List Nat) (r : Rel K κ ρ Wo σ H) : Rel K κ (wipeR vs ρ) Wo (wipe σ vs) H where
  len := by unfold wipeR; rw [List.length_mapIdx, wipe_length]; exact r.len
  sh := fun i d e => by
    rcases wipeR_at e with ⟨_, z⟩ | ⟨n, z⟩
    · cases z
    · rw [wipe_off n]; exact r.sh i d z
  xc := fun i d e => by
    rcases wipeR_at e with ⟨_, z⟩ | ⟨n, z⟩
    · cases z
    · rw [wipe_off n]; exact r.xc i d z
  ow := fun i t d e => by
    rcases wipeR_at e with ⟨_, z⟩ | ⟨n, z⟩
    · cases z
    · rw [wipe_off n]; exact r.ow i t d z
  dj := fun i j t t' d d' l e1 e2 h1 h2 => by
    rcases wipeR_at e1 with ⟨_, z⟩ | ⟨n1, z1⟩
    · cases z
    rcases wipeR_at e2 with ⟨_, z⟩ | ⟨n2, z2⟩
    · cases z
    rw [wipe_off n1] at h1; rw [wipe_off n2] at h2
    exact r.dj i j t t' d d' l z1 z2 h1 h2
  bw := fun i d e => by
    rcases wipeR_at e with ⟨_, z⟩ | ⟨n, z⟩
    · cases z
    · rw [wipe_off n]; exact r.bw i d z
  bo := r.bo
  bd := r.bd
  bn := r.bn
  ht := r.ht
  nx := r.nx
  tu := r.tu
  dp := r.dp.tr (fun i t d e => by
    rcases wipeR_at e with ⟨_, z⟩ | ⟨n, z⟩
    · cases z
    · exact ⟨z, (wipe_off n).symm, fun _ _ _ z => z⟩) (fun i t d l e h => by
    rcases wipeR_at e with ⟨_, z⟩ | ⟨n, z⟩
    · cases z
    · rw [wipe_off n] at h; exact .inl ⟨t, d, z, h⟩) (fun a w _ => ⟨w, fun u z => z⟩) (Ord.refl _)
theorem Rel.rest {vs : List Nat} {ρ0 : Rho} {W0 : Addr → Prop} {H0 : Hp} (r : Rel K κ ρ Wo (L2.wipe σ vs) H) (r0 : Rel K κ ρ0 W0 σ H0) (o : Ord (vw κ W0 H0) (vw κ Wo H)) : Rel K κ (restR vs ρ0 ρ) Wo σ H where
  len := by unfold restR; rw [List.length_mapIdx, ← wipe_length σ vs]; exact r.len
  xc := fun i d e => by
    rcases restR_at e with ⟨_, z⟩ | ⟨n, z⟩
    · cases h0 : ρ0[i]? with
      | none => rw [h0] at z; cases z
      | some s => rw [h0] at z; cases s <;> cases z
    · obtain ⟨e1, q⟩ := r.xc i d z
      rw [wipe_off n] at e1
      exact ⟨e1, q⟩
  sh := fun i d e => by
    rcases restR_at e with ⟨_, z⟩ | ⟨n, z⟩
    · cases h0 : ρ0[i]? with
      | none => rw [h0] at z; cases z
      | some s =>
        rw [h0] at z
        cases s <;> cases z
        obtain ⟨v, e1, q⟩ := r0.sh i d h0
        exact ⟨v, e1, q.mono o⟩
    · obtain ⟨v, e1, q⟩ := r.sh i d z
      rw [wipe_off n] at e1
      exact ⟨v, e1, q⟩
  ow := fun i t d e => by
    rcases restR_at e with ⟨_, z⟩ | ⟨n, z⟩
    · cases h0 : ρ0[i]? with
      | none => rw [h0] at z; cases z
      | some s => rw [h0] at z; cases s <;> cases z
    · obtain ⟨l, u, e1, q⟩ := r.ow i t d z
      rw [wipe_off n] at e1
      exact ⟨l, u, e1, q⟩
  dj := fun i j t t' d d' l e1 e2 h1 h2 => by
    have key : ∀ {i t d}, (restR vs ρ0 ρ)[i]? = some (.ow t d) → i ∉ vs ∧ ρ[i]? = some (.ow t d) := fun {i t d} e => by
      rcases restR_at e with ⟨_, z⟩ | h
      · cases h0 : ρ0[i]? with
        | none => rw [h0] at z; cases z
        | some s => rw [h0] at z; cases s <;> cases z
      · exact h
    obtain ⟨n1, z1⟩ := key e1
    obtain ⟨n2, z2⟩ := key e2
    exact r.dj i j t t' d d' l z1 z2 (by rw [wipe_off n1]; exact h1) (by rw [wipe_off n2]; exact h2)
  bw := fun i d e => by
    rcases restR_at e with ⟨_, z⟩ | ⟨n, z⟩
    · cases h0 : ρ0[i]? with
      | none => rw [h0] at z; cases z
      | some s =>
        rw [h0] at z
        cases s <;> cases z
        exact r0.bw i d h0
    · obtain ⟨v, e1, q⟩ := r.bw i d z
      rw [wipe_off n] at e1
      exact ⟨v, e1, q⟩
  bo := r.bo
  bd := r.bd
  bn := r.bn
  ht := r.ht
  nx := r.nx
  tu := r.tu
  dp := r.dp.tr (fun i t d e => by
    rcases restR_at e with ⟨_, z⟩ | ⟨n, z⟩
    · cases h0 : ρ0[i]? with
      | none => rw [h0] at z; cases z
      | some s => rw [h0] at z; cases s <;> cases z
    · exact ⟨z, wipe_off n, fun _ _ _ z => z⟩) (fun i t d l e h => by
    rcases restR_at e with ⟨_, z⟩ | ⟨n, z⟩
    · cases h0 : ρ0[i]? with
      | none => rw [h0] at z; cases z
      | some s => rw [h0] at z; cases s <;> cases z
    · exact .inl ⟨t, d, z, by rw [wipe_off n]; exact h⟩) (fun a w _ => ⟨w, fun u z => z⟩) (Ord.refl _)
theorem wipe_wipe {σ : L2.St} {vs : List Nat} : L2.wipe (L2.wipe σ vs) vs = L2.wipe σ vs := by
  apply List.ext_getElem?
  intro i
  by_cases h : i ∈ vs
  · rw [wipe_on h, wipe_on h]
    cases σ[i]? <;> rfl
  · rw [wipe_off h]
/-! ### the comprehension -/
def compD (vs : List Nat) (tg : D → M Unit) (tt : M Bool) (fe : M D) : List D → List D → M (List D)
  | [], acc => ret acc
  | d :: ds, acc => fun ρ => match tg d ρ with
    | .ok _ ρ1 => (match tt ρ1 with
      | .ok true ρ2 => (match fe ρ2 with
        | .ok y ρ3 => if acc.length < 16777216 then compD vs tg tt fe ds (acc ++ [y]) (wipeR vs ρ3) else .st
        | _ => .st)
      | .ok false ρ2 => compD vs tg tt fe ds acc (wipeR vs ρ2)
      | _ => .st)
    | _ => .st
def compR (vs : List Nat) (tg : D → M Unit) (tt : M Bool) (fe : M D) (ds : List D) : M D := fun ρ => match compD vs tg tt fe ds [] (wipeR vs ρ) with
  | .ok ys ρ2 => .ok (.lst ys) (restR vs ρ ρ2)
  | _ => .st
def gComp (vs : List Nat) (fi : M (List D)) (tg : D → M Unit) (tt : M Bool) (fe : M D) : M D := bnd fi (compR vs tg tt fe)
def WF : WX := fun _ _ _ _ => False
theorem PE.ex {e : Expr} {α : Type} {t : α → TE} (h : ∀ k, PE X e (t k)) : PE X e (fun σ H Q => ∃ k, t k σ H Q) := ⟨fun p s σ H Q I ⟨k, q⟩ => (h k).run p s σ H Q I q⟩
theorem PG.ex {e : Expr} {α : Type} {t : α → TG} (h : ∀ k, PG X e (t k)) : PG X e (fun v σ H Q => ∃ k, t k v σ H Q) := ⟨fun p s σ H v u Q I r ⟨k, q⟩ => (h k).run p s σ H v u Q I r q⟩
theorem PI.ex {tg e : Expr} {α : Type} {t : α → TI} (h : ∀ k, PI X tg e (t k)) : PI X tg e (fun σ H Q => ∃ k, t k σ H Q) := ⟨fun p s σ H Q I ⟨k, q⟩ => (h k).run p s σ H Q I q⟩
theorem PTs.ex {e : List Expr} {α : Type} {t : α → TT} (h : ∀ k, PTs X e (t k)) : PTs X e (fun σ H Q => ∃ k, t k σ H Q) := ⟨fun p s σ H Q I ⟨k, q⟩ => (h k).run p s σ H Q I q⟩
theorem PTs.imp {e : List Expr} {t t' : TT} (h : PTs X e t) (i : ∀ σ H Q, t' σ H Q → t σ H Q) : PTs X e t' := ⟨fun p s σ H Q I q => h.run p s σ H Q I (i _ _ _ q)⟩
abbrev QTs (X : Cx) (κ : Kp) (W : WX) (es : List Expr) (f : M Bool) : Prop := PTs X es (ttOf X.K κ W f)
theorem qts_nil : QTs X κ W [] (ret true) := PTs.imp pts_nil fun σ H Q ⟨ρ, Wo, rel, q⟩ => q true H (.refl H) rel rfl
theorem qts_one {c : Expr} {t : M Bool} (h : QT X κ W c t) : QTs X κ W [c] t := pts_one h
theorem Lk.none {H' : Hp} {D : Addr} (l : Lk X Wo H H') (h : H' D = none) : H D = none := by
  cases l with
  | same => exact h
  | lock nw hd di n =>
    refine (upd_ne fun z => ?_).symm.trans h
    rw [z, upd_same] at h; cases h
theorem Ord.putH {D : Addr} {o : HO} : Ord (vw (κ.hid D) Wo H) (vw (κ.hid D) Wo (upd H D o)) := hide_ord (fun a n _ z => n z) fun a u n e => by
  rw [upd_ne (fun z => n (by rw [z]; exact .inr (.inr rfl)))]; exact e
end
end Qy

set_option Elab.async false
set_option linter.all false
set_option maxRecDepth 100000
/-! Q16: list comprehensions, the rule. -/
namespace Qy
open PySem PySem.Spec L2
section
variable {X : Cx} {κ : Kp} {W : WX} {K : Fg} {Wo : Addr → Prop} {σ : L2.St} {H : Hp} {ρ : Rho} {tg iter elt : Expr} {ifs : List Expr} {scope : Scope} {own : List (Str × Nat)} {pos : Pos} {fi : M (List D)} {gt : D → M Unit} {tt : M Bool} {fe : M D}
def tgB (K : Fg) (vs : List Nat) (gt : D → M Unit) : TG := fun v σ H Q => ∃ κ, tgOf K κ vs gt v σ H Q
def ttB (K : Fg) (tt : M Bool) : TT := fun σ H Q => ∃ κ, ttOf K κ WF tt σ H Q
def teB (K : Fg) (fe : M D) : TE := fun σ H Q => ∃ κ, teOf K κ WF fe σ H Q
theorem comp_core {vs : List Nat} {Q : VK} (rel : Rel X.K κ ρ Wo σ H) (q : EvF X.K κ W Wo σ H (gComp vs fi gt tt fe ρ) Q) : tLc (tiOf X κ W fi) (tgB X.K vs gt) (ttB X.K tt) (teB X.K fe) vs σ H (fun v => UnL X (Q v)) := by
  refine ⟨ρ, Wo, rel, ?_⟩
  have q : EvF X.K κ W Wo σ H ((fi ρ).bind (compR vs gt tt fe)) Q := q
  cases hf : fi ρ with
  | er e ρ1 => rw [hf] at q; exact q
  | st => rw [hf] at q; exact q.elim
  | ok ds ρ1 =>
    rw [hf] at q
    have q : EvF X.K κ W Wo σ H (compR vs gt tt fe ds ρ1) Q := q
    unfold compR at q
    cases hk : compD vs gt tt fe ds [] (wipeR vs ρ1) with
    | er e ρ2 => rw [hk] at q; exact q.elim
    | st => rw [hk] at q; exact q.elim
    | ok ys ρe =>
      rw [hk] at q
      intro J H1 H' fr rel1 lk ik A hD
      have rel2 := lk.rel rel1
      have bD : κ.B A = none := rel2.bd A hD
      have nf := rel2.free hD
      have nD : ¬ κ.Xh A := fun z => nf (.inr z)
      have nW : ¬ Wo A := fun z => nf (.inl z)
      have rel3 : Rel X.K (κ.hid A) ρ1 Wo σ (upd H' A (.lst [])) := rel2.enter hD rfl
      obtain ⟨G, Y, wk, hI⟩ := ik
      have own : ∀ {ρ2 : Rho} {τ : L2.St} {H2 : Hp}, Fr Wo H' H2 → Rel X.K (κ.hid A) ρ2 Wo τ H2 → Post Wo H' (wPlus Wo A) H2 ∧ Rel X.K κ ρ2 (wPlus Wo A) τ H2 := fun f r => ⟨⟨f, fun l z => z.imp id fun z => by rw [z]; exact hD⟩, r.toOwn bD nD⟩
      refine lc_it wk (fun i H2 => ∃ ρ2 acc accv, Fr Wo H' H2 ∧ Rel X.K (κ.hid A) ρ2 Wo (wipe σ vs) H2 ∧ H2 A = some (.lst accv) ∧ Rps X.K (vw (κ.hid A) Wo H2) acc accv ∧ compD vs gt tt fe (ds.drop i) acc ρ2 = .ok ys ρe)
        ⟨wipeR vs ρ1, [], [], Fr.same (Same.new hD), rel3.wipe vs, upd_same, rps_nil, by rw [List.drop_zero]; exact hk⟩ ?_ ?_ ?_
      · rintro i H2 hi ⟨ρ2, acc, accv, f2, r2, e2, rs2, k2⟩
        obtain ⟨p, r⟩ := own f2 r2
        exact (hI ρ2 _ _ H2 p r).1
      · rintro i x H2 H3 hi ⟨ρ2, acc, accv, f2, r2, e2, rs2, k2⟩ y
        obtain ⟨p, r⟩ := own f2 r2
        obtain ⟨same, rp⟩ := (hI ρ2 _ _ H2 p r).2 i x H3 ds[i] (by simp [hi]) y
        rw [← vw_hid] at rp
        rw [drop_cons hi] at k2
        unfold compD at k2
        have r3 := r2.same same
        have rs3 := rs2.mono (Ord.vws same)
        have e3 : H3 A = some (.lst accv) := same _ _ e2
        have f3 : Fr Wo H' H3 := f2.trans (Fr.same same)
        refine ⟨κ.hid A, ρ2, Wo, ds[i], r3, rp, ?_⟩
        cases ht : gt ds[i] ρ2 with
        | er e ρ4 => rw [ht] at k2; cases k2
        | st => rw [ht] at k2; cases k2
        | ok u ρ4 =>
          simp only [ht] at k2
          intro σ4 w4 r4
          have w4 : wipe σ4 vs = wipe σ vs := w4.trans wipe_wipe
          refine ⟨w4, κ.hid A, ρ4, Wo, r4, ?_⟩
          cases hb : tt ρ4 with
          | er e ρ5 => rw [hb] at k2; cases k2
          | st => rw [hb] at k2; cases k2
          | ok b ρ5 =>
            intro b' H5 f5 r5 eb
            subst eb
            have e5 : H5 A = some (.lst accv) := f5 A _ nW e3
            have rs5 := rs3.mono (Ord.fr f5)
            cases b with
            | false =>
              simp only [hb] at k2
              simp only [Bool.false_eq_true, if_false]
              exact ⟨wipeR vs ρ5, acc, accv, f3.trans f5, w4 ▸ r5.wipe vs, e5, rs5, k2⟩
            | true =>
              simp only [hb] at k2
              simp only [if_true]
              refine ⟨κ.hid A, ρ5, Wo, r5, ?_⟩
              cases hfe : fe ρ5 with
              | er e ρ6 => rw [hfe] at k2; cases k2
              | st => rw [hfe] at k2; cases k2
              | ok y ρ6 =>
                simp only [hfe] at k2
                intro v H6 f6 r6 rp6
                have e6 : H6 A = some (.lst accv) := f6 A _ nW e5
                have rs6 := rs5.mono (Ord.fr f6)
                split at k2
                · rename_i hz
                  have hl := rs6.length
                  refine ⟨accv, e6, by rw [← hl]; exact hz, wipeR vs ρ6, acc ++ [y], accv ++ [v], ?_, w4 ▸ (r6.putH bD rfl).wipe vs, upd_same, (rs6.append (rps_cons rp6 rps_nil)).mono Ord.putH, k2⟩
                  exact fun b o nb e => by
                    rw [upd_ne (fun z => by rw [z, hD] at e; cases e)]
                    exact (f3.trans (f5.trans f6)) b o nb e
                · cases k2
      · rintro H2 ⟨ρ2, acc, accv, f2, r2, e2, rs2, k2⟩
        rw [List.drop_length] at k2
        have k2 : (Qy.R.ok acc ρ2 : Qy.R (List Qy.D)) = .ok ys ρe := k2
        cases k2
        have r3 : Rel X.K (κ.hid A) (restR vs ρ1 ρe) Wo σ H2 := r2.rest rel3 (hide_ord (fun a n _ z => n z) fun a u n e => f2 a u (fun z => n (.inl z)) (by rw [upd_ne (fun z => n (.inr (.inr z)))] at e; exact e))
        refine lk.back (Post.of f2) r3 fun H3 p3 r4 o3 k3 k4 => ?_
        have e4 : H3 A = some (.lst accv) := k4 _ _ rfl e2
        refine q A (.lst accv) (cut H3 A) H3 (fr.trans fun b o nb e => ?_) (r4.cutH bD nD) cut_at cut_same e4 ?_
        · have ne : b ≠ A := fun z => by rw [z, lk.none hD] at e; cases e
          rw [cut_ne ne]
          exact p3.fr b o nb e
        · show Rps _ _ _ _
          rw [← vw_hid]
          exact rs2.mono o3
theorem qf_comp {vs : List Nat} (hc : X.calm = true) (hN : X.N.Nodup) (hi : QI X κ W tg iter fi) (ok : BlkOk X.N X.env.scope scope own) (hv : own.map (·.2) = vs)
    (hg : ∀ (κ : Kp) (s : Shared) (H : Hp) (C : Addr) (cl : List (Str × Addr)) (fp : List Addr), QG (X.blk s H scope (compEnvC scope cl C X.env) fp) κ vs tg gt)
    (ht : ∀ (κ : Kp) (s : Shared) (H : Hp) (C : Addr) (cl : List (Str × Addr)) (fp : List Addr), QTs (X.blk s H scope (compEnvC scope cl C X.env) fp) κ WF ifs tt)
    (he : ∀ (κ : Kp) (s : Shared) (H : Hp) (C : Addr) (cl : List (Str × Addr)) (fp : List Addr), QE (X.blk s H scope (compEnvC scope cl C X.env) fp) κ WF elt fe)
    (hs : ∀ x, foldedSetIterable iter X.env x = pure x := by intro _; rfl) : QF X κ W (.ListComp elt [⟨tg, iter, ifs, 0⟩] scope pos) (gComp vs fi gt tt fe) := by
  subst hv
  exact PE.imp (pe_unl (pe_lc hc hN hi ok (fun s H C cl fp => PG.ex fun κ => hg κ s H C cl fp) (fun s H C cl fp => PTs.ex fun κ => ht κ s H C cl fp) (fun s H C cl fp => PE.ex fun κ => he κ s H C cl fp) hs)) fun σ H Q ⟨ρ, Wo, rel, q⟩ => comp_core rel q
end
end Qy

set_option Elab.async false
set_option linter.all false
set_option maxRecDepth 100000
/-! Q17: dict comprehensions, keys ints, texts, or tuples of these. -/
namespace Qy
open PySem PySem.Spec L2
section
variable {X : Cx} {pins : List (Addr × Obj)} {σ : L2.St} {H : Hp} {s : Shared}
theorem dset {E : Value → Shared → Prop} {a : Addr} {y v : V} {u r : Value} {H' : Hp} {Q : Unit → Shared → Prop} (hu : X.A.units < cLine) (I : Inv X pins σ H s) (g : DPut H a y v H') (ry : RelV y u) (rv : RelV v r) (h : ∀ s', Inv X pins σ H' s' → Q () s') :
    wpAny (model X.prog X.w) X.A (dictSet a u r) Q E s := by
  rcases g with ⟨kvs, k, e, ey, l, eH⟩ | ⟨kvs, k, b, e, ey, eb, l, eH⟩
  · subst ey eH
    exact d_dictSet I e l ry rv h
  · subst ey eH
    cases (show u = Value.ref b from ry)
    obtain ⟨z, hd, xs, rel, dd⟩ := dt_of I.hok e
    have hz : xs.length ≤ sizeLine := by rw [← Paired.length rel]; exact z
    have hl : (putK kvs k v).length ≤ sizeLine := by have := length_putK kvs k v; omega
    refine wpAny_dictSet_heap (hsz := hz) (knd := tupleKind (mixKind X.prog X.w)) hu (key_of I.hok eb) dd fun h' dd' hs => h _ ?_
    obtain ⟨q, es, ep, hq, h2, h3, h4, _, h5⟩ := dd'
    refine d_write I (by rw [e]; exact True.intro) hs ⟨q, hq⟩ ⟨hl, hd, _, (rel.put k eb rv).keeps fun c ys ec => ?_, q, es, ep, hq, h2, h3, h4, h5⟩
    rw [upd_ne (ne_of ec e (fun z => nomatch z))]
    exact ec
/-- an empty dict of either kind -/
def Mt (u : HO) : Prop := u = .dK [] ∨ u = .dT []
def tDg (u0 : HO) (wi : TI) (g : TG) (tt : TT) (tk tv : TE) (vs : List Nat) : TE := fun σ H Q => wi σ H fun J H1 => ∀ A, H1 A = none → ∃ W : Nat → Nat → Hp → Prop, (∃ m, W 0 m (upd H1 A u0)) ∧ ∀ i m H, W i m H →
  (J.stop i H ∧ Q (.ref A) H) ∨ (J.go i H ∧ ∃ Nx : Hp → Prop, (∀ H', Nx H' → ∃ m', m' < m ∧ W (i + 1) m' H') ∧ ∀ x H', J.yld i H x H' → g x (wipe σ vs) H' fun σ2 H2 => wipe σ2 vs = wipe σ vs ∧ tt σ2 H2 fun b H3 =>
    if b = true then tk σ2 H3 fun y H4 => tv σ2 H4 fun z H5 => ∃ H6, DPut H5 A y z H6 ∧ Nx H6 else Nx H3)
theorem dg_core {u0 : HO} {Q : VK} {kx vx tg iter : Expr} {ifs : List Expr} {scope : Scope} {own : List (Str × Nat)} {pos pos' : Pos} {wi : TI} {g : TG} {tt : TT} {tk tv : TE} {use : Option (Value → Sem Unit)} {Qf : Value → Shared → Prop}
    (hu : X.A.units < cLine) (h0 : Mt u0) (hc : X.calm = true) (hN : X.N.Nodup) (I : Inv X pins σ H s) (hi : PI X tg iter wi) (ok : BlkOk X.N X.env.scope scope own)
    (hg : ∀ (s : Shared) (H : Hp) (C : Addr) (cl : List (Str × Addr)) (fp : List Addr), PG (X.blk s H scope (compEnvC scope cl C X.env) fp) tg g) (ht : ∀ (s : Shared) (H : Hp) (C : Addr) (cl : List (Str × Addr)) (fp : List Addr), PTs (X.blk s H scope (compEnvC scope cl C X.env) fp) ifs tt)
    (hk : ∀ (s : Shared) (H : Hp) (C : Addr) (cl : List (Str × Addr)) (fp : List Addr), PE (X.blk s H scope (compEnvC scope cl C X.env) fp) kx tk)
    (he : ∀ (s : Shared) (H : Hp) (C : Addr) (cl : List (Str × Addr)) (fp : List Addr), PE (X.blk s H scope (compEnvC scope cl C X.env) fp) vx tv) (hs : ∀ x, foldedSetIterable iter X.env x = pure x)
    (h : tDg u0 wi g tt tk tv (own.map (·.2)) σ H Q)
    (hRR : ∀ A C s' m H', Inv X pins σ H' s' → Q (.ref A) H' → s'.heap.Ns C m → FpOk X pins H' C → compPost (model X.prog X.w) X.A X.xe use Qf (.ref A) C (.ok .next) s') :
    wpAny (model X.prog X.w) X.A (comprehension (.DictComp kx vx [⟨tg, iter, ifs, 0⟩] scope pos) scope X.env pos' newDict false (eval iter X.env) use) Qf X.xe s := by
  refine wpAny_comprehension_free (use := use) rfl hs (closure_ok fun y hy e => I.ok.has _ ((ok.free y hy e).imp id id)) ok.kind (fun y hy e => by rw [ok.uniq y hy, e]) (thn (hi.run pins s σ H _ I h) fun xv s1 hx => thn hx fun itv s2 h2 => ?_)
  obtain ⟨it, fp, tn, J, H2, rfl, I2, T, st2, f2, q⟩ := h2
  refine wpAny_newObj_type (newEnv_comp ?_)
  generalize hA : s2.heap.objs.size = A
  have hAn : H2 A = none := I2.hok.fresh (Nat.le_of_eq hA)
  obtain ⟨W, ⟨m0, w0⟩, turn⟩ := q A hAn
  generalize hs3 : ({ s2 with heap := s2.heap.push { cls := .type "dict", data := .dict #[] } } : Shared) = s3
  have I3 : Inv X pins σ (upd H2 A u0) s3 := by
    rw [← hs3]
    refine I2.laid (t' := s2.toks) (fun b o e => Heap.get?_push_of_some _ e) (Nat.le_of_eq hA) ?_
    rw [← hA]
    rcases h0 with rfl | rfl
    · exact dk_empty s2.heap I2.big
    · exact dt_empty s2.heap I2.big
  have h3 : s3.heap = s2.heap.push { cls := .type "dict", data := .dict #[] } := by rw [← hs3]
  have f3 : ∀ b ∈ fp, FpOk X pins (upd H2 A u0) b ∧ b < s3.heap.objs.size := fun b hb => by
    have hlt : b < s2.heap.objs.size := let ⟨_, e, _⟩ := T.obj _ _ st2 b hb; Heap.lt_size e
    exact ⟨⟨by rw [upd_ne (by rw [← hA]; exact Nat.ne_of_lt hlt)]; exact (f2 b hb).1, (f2 b hb).2⟩, by rw [h3, Heap.size_push]; exact Nat.lt_succ_of_lt hlt⟩
  have st3 : tn 0 s3.heap := T.keep _ _ _ st2 fun b _ o e => by rw [h3]; exact Heap.get?_push_of_some _ e
  have I4 := block_start I3 ok hN f3
  show codeAny _ _ (.compStart (.DictComp kx vx [⟨tg, iter, ifs, 0⟩] scope pos) 0 (.ref it) (.ref A) (compEnvC scope (cellsFrom (s3.heap.objs.size + 1) scope.names (cloFrom X.env.cells scope.names [])) s3.heap.objs.size X.env)) (compPost (model X.prog X.w) X.A X.xe use Qf (.ref A) s3.heap.objs.size) { s3 with heap := pushCells (s3.heap.push { cls := .type "dict", data := .dict #[] }) scope.names }
  have blk := fun (H3 : Hp) => (⟨hg s3 H3 _ _ fp, ht s3 H3 _ _ fp, hk s3 H3 _ _ fp, he s3 H3 s3.heap.objs.size (cellsFrom (s3.heap.objs.size + 1) scope.names (cloFrom X.env.cells scope.names [])) fp⟩ : PG (X.blk s3 H3 scope (compEnvC scope (cellsFrom (s3.heap.objs.size + 1) scope.names (cloFrom X.env.cells scope.names [])) s3.heap.objs.size X.env) fp) tg g ∧
    PTs (X.blk s3 H3 scope (compEnvC scope (cellsFrom (s3.heap.objs.size + 1) scope.names (cloFrom X.env.cells scope.names [])) s3.heap.objs.size X.env) fp) ifs tt ∧ PE (X.blk s3 H3 scope (compEnvC scope (cellsFrom (s3.heap.objs.size + 1) scope.names (cloFrom X.env.cells scope.names [])) s3.heap.objs.size X.env) fp) kx tk ∧
    PE (X.blk s3 H3 scope (compEnvC scope (cellsFrom (s3.heap.objs.size + 1) scope.names (cloFrom X.env.cells scope.names [])) s3.heap.objs.size X.env) fp) vx tv)
  have nfp : ∀ b ∈ fp, (upd H2 A u0) b = none := fun b hb => (f3 b hb).1.1
  generalize hce : compEnvC scope (cellsFrom (s3.heap.objs.size + 1) scope.names (cloFrom X.env.cells scope.names [])) s3.heap.objs.size X.env = ce at I4 blk ⊢
  have cL : ce.locals = s3.heap.objs.size := by subst hce; rfl
  generalize hH3 : upd H2 A u0 = H3 at I3 I4 w0 nfp f3
  obtain ⟨pg, pt, pk, pe⟩ := blk H3
  generalize hs4 : ({ s3 with heap := pushCells (s3.heap.push { cls := .type "dict", data := .dict #[] }) scope.names } : Shared) = s4 at I4 ⊢
  have st4 : tn 0 s4.heap := T.keep _ _ _ st3 fun b _ o e => by rw [← hs4]; exact pushCells_keeps _ _ _ _ (Heap.get?_push_of_some _ e)
  have stat : ∀ {σ' : L2.St} {H' : Hp} {s' : Shared}, Inv (X.blk s3 H3 scope ce fp) [] σ' H' s' → (∀ b ∈ fp, H' b = none) → ∀ b ∈ fp, FpOk (X.blk s3 H3 scope ce fp) [] H' b := fun I' hn b hb =>
    ⟨hn b hb, (I'.ok.exf b hb).1, I'.ok.exfs b hb, .inl hb, fun x c e => (I'.ok.exf b hb).2 x c e, fun p hp => nomatch (show p ∈ ([] : List (Addr × Obj)) from hp)⟩
  suffices loop : codeAny (model X.prog X.w) X.A (.compLoop (.DictComp kx vx [⟨tg, iter, ifs, 0⟩] scope pos) 0 (.ref it) (.ref A) ce) (compPost (model X.prog X.w) X.A X.xe use Qf (.ref A) s3.heap.objs.size) s4 from codeAny_compStart_dict loop (T.self X.A 0 _ _ _ st4 loop)
  refine compLoop_anyD (fun n s' => ∃ i H', Inv (X.blk s3 H3 scope ce fp) [] (wipe σ (own.map (·.2))) H' s' ∧ tn i s'.heap ∧ (∀ b ∈ fp, H' b = none) ∧ W i n H') ?_ m0 ⟨0, H3, I4, st4, nfp, w0⟩
  rintro n s5 ⟨i, H5, I5, st5, n5, w5⟩
  rcases turn i n H5 w5 with ⟨stop, qq⟩ | ⟨go, Nx, hNx, step⟩
  · refine thnF (T.done (X.blk s3 H3 scope ce fp) rfl rfl rfl hc i [] s5 _ H5 (fun _ _ => False) I5 (stat I5 n5) st5 stop) fun r s6 ⟨hr, I6⟩ => ?_
    subst hr
    have I7 : Inv X pins σ H5 s6 := I3.call' (ch := fp) I6.os I6.base I6.hok I6.bare fun b hb => ⟨(f3 b hb).1.2.2.2.1, (f3 b hb).1.2.1, (f3 b hb).1.2.2.2.2.1, (f3 b hb).1.2.2.2.2.2⟩
    have nC : H5 s3.heap.objs.size = none := cL ▸ (show H5 ce.locals = none from I6.free)
    obtain ⟨m, hn, _⟩ := I6.loc
    exact hRR A s3.heap.objs.size s6 m H5 I7 qq (cL ▸ (show s6.heap.Ns ce.locals m from hn)) (I3.fpOk (Nat.le_refl _) nC)
  · refine thnF (T.item (X.blk s3 H3 scope ce fp) rfl rfl rfl hc i [] s5 _ H5 (fun _ _ => False) I5 (stat I5 n5) st5 go) fun r s6 ⟨u, hr, h6⟩ => ?_
    subst hr
    refine thnF h6 fun _ s7 ⟨x, H7, I7, r7, y7, st7, n7⟩ => ?_
    refine thnF (pg.run _ s7 _ H7 x u _ (I7.pinned (stat I7 n7) (T.obj _ _ st7)) r7 (step x H7 y7)) fun _ s8 ⟨σ8, H8, I8, hw8, q8⟩ => ?_
    refine thnF (pt.run _ s8 σ8 H8 _ I8 q8) fun b s9 ⟨H9, I9, q9⟩ => ?_
    have fin : ∀ {s' : Shared} {H' : Hp}, Inv (X.blk s3 H3 scope ce fp) ([] ++ pinsAt fp s7.heap) σ8 H' s' → Nx H' → ∃ m, m < n ∧ ∃ i H', Inv (X.blk s3 H3 scope ce fp) [] (wipe σ (own.map (·.2))) H' s' ∧ tn i s'.heap ∧ (∀ b ∈ fp, H' b = none) ∧ W i m H' := fun {s' H'} I' nx => by
      obtain ⟨m', hm, w'⟩ := hNx H' nx
      have pin' : ∀ b ∈ fp, ∀ o, s7.heap.get? b = some o → s'.heap.get? b = some o ∧ H' b = none := fun b hb o e =>
        let z := I'.pin (b, o) (List.mem_append_right _ (List.mem_append_right _ (mem_pinsAt hb e)))
        ⟨z.1, z.2.1⟩
      refine ⟨m', hm, i + 1, H', (I'.unpinned (pins := [])).weak (by rw [← hw8, wipe_length]) (fun j v e => ?_), T.keep _ _ _ st7 fun b hb o e => (pin' b hb o e).1, fun b hb => ?_, w'⟩
      · rw [← hw8] at e
        exact (wipe_some e).1
      · obtain ⟨o, e, _⟩ := T.obj _ _ st7 b hb
        exact (pin' b hb o e).2
    cases b with
    | false =>
      simp only [Bool.false_eq_true, if_false] at q9 ⊢
      exact fin I9 q9
    | true =>
      simp only [if_true] at q9 ⊢
      refine thnF (pk.run _ s9 σ8 H9 _ I9 q9) fun z s10 ⟨yk, H10, I10, r10, q10⟩ => ?_
      refine thnF (pe.run _ s10 σ8 H10 _ I10 q10) fun z2 s11 ⟨yv, H11, I11, r11, H12, dp, nx⟩ => ?_
      exact dset (X := X.blk s3 H3 scope ce fp) hu I11 dp r10 r11 fun s12 I12 => fin I12 nx
theorem pe_dg {u0 : HO} {kx vx tg iter : Expr} {ifs : List Expr} {scope : Scope} {own : List (Str × Nat)} {pos : Pos} {wi : TI} {g : TG} {tt : TT} {tk tv : TE} (hu : X.A.units < cLine) (h0 : Mt u0) (hc : X.calm = true) (hN : X.N.Nodup) (hi : PI X tg iter wi) (ok : BlkOk X.N X.env.scope scope own)
    (hg : ∀ (s : Shared) (H : Hp) (C : Addr) (cl : List (Str × Addr)) (fp : List Addr), PG (X.blk s H scope (compEnvC scope cl C X.env) fp) tg g) (ht : ∀ (s : Shared) (H : Hp) (C : Addr) (cl : List (Str × Addr)) (fp : List Addr), PTs (X.blk s H scope (compEnvC scope cl C X.env) fp) ifs tt)
    (hk : ∀ (s : Shared) (H : Hp) (C : Addr) (cl : List (Str × Addr)) (fp : List Addr), PE (X.blk s H scope (compEnvC scope cl C X.env) fp) kx tk)
    (he : ∀ (s : Shared) (H : Hp) (C : Addr) (cl : List (Str × Addr)) (fp : List Addr), PE (X.blk s H scope (compEnvC scope cl C X.env) fp) vx tv) (hs : ∀ x, foldedSetIterable iter X.env x = pure x := by intro _; rfl) :
    PE X (.DictComp kx vx [⟨tg, iter, ifs, 0⟩] scope pos) (tDg u0 wi g tt tk tv (own.map (·.2))) := by
  refine ⟨fun pins s σ H Q I h => ?_⟩
  rw [arm_eval_DictComp]
  refine dg_core hu h0 hc hN I hi ok hg ht hk he hs h fun D C s' m H' I' q hn f => ⟨m, hn, fun h'' sb => ?_⟩
  obtain ⟨f0, f1, f2, f3, f4, f5⟩ := f
  exact ⟨.ref D, H', I'.turned (t' := s'.toks) (fun b o hb e => (sb.2 b hb).trans e) f0 f1 f3 f4 f5, rfl, q⟩
end
/-! ### the rule -/
section
variable {X : Cx} {κ : Kp} {W : WX} {K : Fg} {Wo : Addr → Prop} {σ : L2.St} {H : Hp} {ρ : Rho} {tg iter kx vx : Expr} {ifs : List Expr} {scope : Scope} {own : List (Str × Nat)} {pos : Pos} {fi : M (List D)} {gt : D → M Unit} {tt : M Bool} {fk fv : M D}
theorem stD_put {S H : Hp} {l : Addr} {o : HO} {c k d c' : D} {u v : V} (e : stD c k d = some c') (hd : isDi o = true) (hc : Cn K S c o) (rk : Rp K S k u) (rd : Rp K S d v) (or : Ord S H) (hl : H l = some o) : ∃ H6, DPut H l u v H6 ∧ ∃ o', H6 = upd H l o' ∧ isDi o' = true ∧ Cn K S c' o' := by
  have q := stD_ok (Q := fun H6 => ∃ o', H6 = upd H l o' ∧ Cn K S c' o') e hc rk rd or hl fun o' h => ⟨o', rfl, h⟩
  rcases q with ⟨l', vs, _, _, e1, _, e2, _⟩ | ⟨l', H6, e1, dp, o', rfl, h⟩
  · cases e1
    rw [hl] at e2; cases e2; cases hd
  · cases e1
    refine ⟨_, dp, o', rfl, ?_, h⟩
    rcases dp with ⟨_, _, _, _, _, z⟩ | ⟨_, _, _, _, _, _, _, z⟩
    · have := congrFun z l
      rw [upd_same, upd_same] at this
      cases this; rfl
    · have := congrFun z l
      rw [upd_same, upd_same] at this
      cases this; rfl
theorem walk_any {J : It} {n : Nat} {G : Hp → Prop} {Y : Nat → Hp → V → Hp → Prop} (w : Walk J n G Y) {B : V → Hp → (Hp → Prop) → Prop} {Qd : Hp → Prop} {H0 : Hp} (Pv : Nat → Hp → Prop) (h0 : Pv 0 H0) (hG : ∀ i H, i ≤ n → Pv i H → G H)
    (hs : ∀ i x H H', i < n → Pv i H → Y i H x H' → B x H' (Pv (i + 1))) (hd : ∀ H, Pv n H → Qd H) :
    ∃ W : Nat → Nat → Hp → Prop, (∃ m, W 0 m H0) ∧ ∀ i m H, W i m H → (J.stop i H ∧ Qd H) ∨ (J.go i H ∧ ∃ Nx : Hp → Prop, (∀ H', Nx H' → ∃ m', m' < m ∧ W (i + 1) m' H') ∧ ∀ x H', J.yld i H x H' → B x H' Nx) := by
  refine ⟨fun i m H => m = n - i ∧ i ≤ n ∧ Pv i H, ⟨n, by simp, Nat.zero_le _, h0⟩, ?_⟩
  rintro i m H ⟨rfl, hi, p⟩
  have q := hG i H hi p
  by_cases hlt : i < n
  · exact .inr ⟨w.goes i H hlt q, Pv (i + 1), fun H' p' => ⟨n - (i + 1), by omega, rfl, hlt, p'⟩, fun x H' y => hs i x H H' hlt p (w.yields i H x H' hlt q y)⟩
  · have e : i = n := by omega
    subst e
    exact .inl ⟨w.stops H q, hd H p⟩
def compDD (vs : List Nat) (tg : D → M Unit) (tt : M Bool) (fk fv : M D) : List D → D → M D
  | [], c => ret c
  | d :: ds, c => fun ρ => match tg d ρ with
    | .ok _ ρ1 => (match tt ρ1 with
      | .ok true ρ2 => (match fk ρ2 with
        | .ok k ρ3 => (match fv ρ3 with
          | .ok y ρ4 => (match stD c k y with
            | some c' => compDD vs tg tt fk fv ds c' (wipeR vs ρ4)
            | none => .st)
          | _ => .st)
        | _ => .st)
      | .ok false ρ2 => compDD vs tg tt fk fv ds c (wipeR vs ρ2)
      | _ => .st)
    | _ => .st
def compDR (vs : List Nat) (c0 : D) (tg : D → M Unit) (tt : M Bool) (fk fv : M D) (ds : List D) : M D := fun ρ => match compDD vs tg tt fk fv ds c0 (wipeR vs ρ) with
  | .ok c ρ2 => .ok c (restR vs ρ ρ2)
  | _ => .st
def gDComp (vs : List Nat) (c0 : D) (fi : M (List D)) (tg : D → M Unit) (tt : M Bool) (fk fv : M D) : M D := bnd fi (compDR vs c0 tg tt fk fv)
theorem dcomp_core {vs : List Nat} {c0 : D} {u0 : HO} {Q : VK} (h0 : Mt u0) (hc0 : ∀ S, Cn X.K S c0 u0) (rel : Rel X.K κ ρ Wo σ H) (q : EvF X.K κ W Wo σ H (gDComp vs c0 fi gt tt fk fv ρ) Q) : tDg u0 (tiOf X κ W fi) (tgB X.K vs gt) (ttB X.K tt) (teB X.K fk) (teB X.K fv) vs σ H (fun v => UnL X (Q v)) := by
  have du0 : isDi u0 = true := by rcases h0 with rfl | rfl <;> rfl
  have tu0 : isT u0 = false := by rcases h0 with rfl | rfl <;> rfl
  refine ⟨ρ, Wo, rel, ?_⟩
  have q : EvF X.K κ W Wo σ H ((fi ρ).bind (compDR vs c0 gt tt fk fv)) Q := q
  cases hf : fi ρ with
  | er e ρ1 => rw [hf] at q; exact q
  | st => rw [hf] at q; exact q.elim
  | ok ds ρ1 =>
    rw [hf] at q
    have q : EvF X.K κ W Wo σ H (compDR vs c0 gt tt fk fv ds ρ1) Q := q
    unfold compDR at q
    cases hk : compDD vs gt tt fk fv ds c0 (wipeR vs ρ1) with
    | er e ρ2 => rw [hk] at q; exact q.elim
    | st => rw [hk] at q; exact q.elim
    | ok ys ρe =>
      rw [hk] at q
      intro J H1 H' fr rel1 lk ik A hA
      have rel2 := lk.rel rel1
      have bA : κ.B A = none := rel2.bd A hA
      have nf := rel2.free hA
      have nA : ¬ κ.Xh A := fun z => nf (.inr z)
      have nW : ¬ Wo A := fun z => nf (.inl z)
      have rel3 : Rel X.K (κ.hid A) ρ1 Wo σ (upd H' A u0) := rel2.enter hA tu0
      obtain ⟨G, Y, wk, hI⟩ := ik
      have own : ∀ {ρ2 : Rho} {τ : L2.St} {H2 : Hp}, Fr Wo H' H2 → Rel X.K (κ.hid A) ρ2 Wo τ H2 → Post Wo H' (wPlus Wo A) H2 ∧ Rel X.K κ ρ2 (wPlus Wo A) τ H2 := fun f r => ⟨⟨f, fun l z => z.imp id fun z => by rw [z]; exact hA⟩, r.toOwn bA nA⟩
      refine walk_any wk (B := fun x H' Nx => tgB X.K vs gt x (wipe σ vs) H' fun σ2 H2 => wipe σ2 vs = wipe σ vs ∧ ttB X.K tt σ2 H2 fun b H3 => if b = true then teB X.K fk σ2 H3 fun y H4 => teB X.K fv σ2 H4 fun z H5 => ∃ H6, DPut H5 A y z H6 ∧ Nx H6 else Nx H3) (fun i H2 => ∃ ρ2 c o, Fr Wo H' H2 ∧ Rel X.K (κ.hid A) ρ2 Wo (wipe σ vs) H2 ∧ H2 A = some o ∧ isDi o = true ∧ Cn X.K (vw (κ.hid A) Wo H2) c o ∧ compDD vs gt tt fk fv (ds.drop i) c ρ2 = .ok ys ρe)
        ⟨wipeR vs ρ1, c0, u0, Fr.same (Same.new hA), rel3.wipe vs, upd_same, du0, hc0 _, by rw [List.drop_zero]; exact hk⟩ ?_ ?_ ?_
      · rintro i H2 hi ⟨ρ2, c, o, f2, r2, e2, d2, rs2, k2⟩
        obtain ⟨p, r⟩ := own f2 r2
        exact (hI ρ2 _ _ H2 p r).1
      · rintro i x H2 H3 hi ⟨ρ2, c, o, f2, r2, e2, d2, rs2, k2⟩ y
        obtain ⟨p, r⟩ := own f2 r2
        obtain ⟨same, rp⟩ := (hI ρ2 _ _ H2 p r).2 i x H3 ds[i] (by simp [hi]) y
        rw [← vw_hid] at rp
        rw [drop_cons hi] at k2
        unfold compDD at k2
        have r3 := r2.same same
        have rs3 := rs2.mono (Ord.vws same)
        have e3 : H3 A = some o := same _ _ e2
        have f3 : Fr Wo H' H3 := f2.trans (Fr.same same)
        refine ⟨κ.hid A, ρ2, Wo, ds[i], r3, rp, ?_⟩
        cases ht : gt ds[i] ρ2 with
        | er e ρ4 => rw [ht] at k2; cases k2
        | st => rw [ht] at k2; cases k2
        | ok u ρ4 =>
          simp only [ht] at k2
          intro σ4 w4 r4
          have w4 : wipe σ4 vs = wipe σ vs := w4.trans wipe_wipe
          refine ⟨w4, κ.hid A, ρ4, Wo, r4, ?_⟩
          cases hb : tt ρ4 with
          | er e ρ5 => rw [hb] at k2; cases k2
          | st => rw [hb] at k2; cases k2
          | ok b ρ5 =>
            intro b' H5 f5 r5 eb
            subst eb
            have e5 : H5 A = some o := f5 A _ nW e3
            have rs5 := rs3.mono (Ord.fr f5)
            cases b with
            | false =>
              simp only [hb] at k2
              simp only [Bool.false_eq_true, if_false]
              exact ⟨wipeR vs ρ5, c, o, f3.trans f5, w4 ▸ r5.wipe vs, e5, d2, rs5, k2⟩
            | true =>
              simp only [hb] at k2
              simp only [if_true]
              refine ⟨κ.hid A, ρ5, Wo, r5, ?_⟩
              cases hfk : fk ρ5 with
              | er e ρ6 => rw [hfk] at k2; cases k2
              | st => rw [hfk] at k2; cases k2
              | ok kd ρ6 =>
                simp only [hfk] at k2
                intro kv H6 f6 r6 rp6
                refine ⟨κ.hid A, ρ6, Wo, r6, ?_⟩
                cases hfv : fv ρ6 with
                | er e ρ7 => rw [hfv] at k2; cases k2
                | st => rw [hfv] at k2; cases k2
                | ok y ρ7 =>
                  simp only [hfv] at k2
                  intro v H7 f7 r7 rp7
                  have e7 : H7 A = some o := f7 A _ nW (f6 A _ nW e5)
                  cases hst : stD c kd y with
                  | none => rw [hst] at k2; cases k2
                  | some c' =>
                    simp only [hst] at k2
                    obtain ⟨H8, dp, o', rfl, do', cn'⟩ := stD_put hst d2 ((rs5.mono (Ord.fr f6)).mono (Ord.fr f7)) (rp6.mono (Ord.fr f7)) rp7 hide_le e7
                    refine ⟨_, dp, wipeR vs ρ7, c', o', fun b o nb e => ?_, w4 ▸ (r7.putH bA (isDi_t do')).wipe vs, upd_same, do', cn'.mono Ord.putH, k2⟩
                    rw [upd_ne (fun z => by rw [z, hA] at e; cases e)]
                    exact (f3.trans (f5.trans (f6.trans f7))) b o nb e
      · rintro H2 ⟨ρ2, c, o, f2, r2, e2, d2, rs2, k2⟩
        rw [List.drop_length] at k2
        have k2 : (Qy.R.ok c ρ2 : Qy.R Qy.D) = .ok ys ρe := k2
        cases k2
        have r3 : Rel X.K (κ.hid A) (restR vs ρ1 ρe) Wo σ H2 := r2.rest rel3 (hide_ord (fun a n _ z => n z) fun a u n e => f2 a u (fun z => n (.inl z)) (by rw [upd_ne (fun z => n (.inr (.inr z)))] at e; exact e))
        refine lk.back (Post.of f2) r3 fun H3 p3 r4 o3 k3 k4 => ?_
        have e4 : H3 A = some o := k4 _ _ rs2.nf e2
        refine q A o (cut H3 A) H3 (fr.trans fun b o nb e => ?_) (r4.cutH bA nA) cut_at cut_same e4 ?_
        · have ne : b ≠ A := fun z => by rw [z, lk.none hA] at e; cases e
          rw [cut_ne ne]
          exact p3.fr b o nb e
        · rw [← vw_hid]
          exact rs2.mono o3
/-- .. its kind chosen: b for keys that are tuples -/
def mt (b : Bool) : D := if b = true then .dt [] [] else .dk [] []
def mtO (b : Bool) : HO := if b = true then .dT [] else .dK []
theorem mt_mt (b : Bool) : Mt (mtO b) := by cases b <;> first | exact .inl rfl | exact .inr rfl
theorem mt_cn (b : Bool) (S : Hp) : Cn K S (mt b) (mtO b) := by cases b <;> exact ⟨rfl, rps_nil⟩
theorem qf_dcomp {vs : List Nat} (b : Bool) (hu : X.A.units < cLine) (hc : X.calm = true) (hN : X.N.Nodup) (hi : QI X κ W tg iter fi) (ok : BlkOk X.N X.env.scope scope own) (hv : own.map (·.2) = vs)
    (hg : ∀ (κ : Kp) (s : Shared) (H : Hp) (C : Addr) (cl : List (Str × Addr)) (fp : List Addr), QG (X.blk s H scope (compEnvC scope cl C X.env) fp) κ vs tg gt)
    (ht : ∀ (κ : Kp) (s : Shared) (H : Hp) (C : Addr) (cl : List (Str × Addr)) (fp : List Addr), QTs (X.blk s H scope (compEnvC scope cl C X.env) fp) κ WF ifs tt)
    (hk : ∀ (κ : Kp) (s : Shared) (H : Hp) (C : Addr) (cl : List (Str × Addr)) (fp : List Addr), QE (X.blk s H scope (compEnvC scope cl C X.env) fp) κ WF kx fk)
    (he : ∀ (κ : Kp) (s : Shared) (H : Hp) (C : Addr) (cl : List (Str × Addr)) (fp : List Addr), QE (X.blk s H scope (compEnvC scope cl C X.env) fp) κ WF vx fv)
    (hs : ∀ x, foldedSetIterable iter X.env x = pure x := by intro _; rfl) : QF X κ W (.DictComp kx vx [⟨tg, iter, ifs, 0⟩] scope pos) (gDComp vs (mt b) fi gt tt fk fv) := by
  subst hv
  exact PE.imp (pe_unl (pe_dg hu (mt_mt b) hc hN hi ok (fun s H C cl fp => PG.ex fun κ => hg κ s H C cl fp) (fun s H C cl fp => PTs.ex fun κ => ht κ s H C cl fp) (fun s H C cl fp => PE.ex fun κ => hk κ s H C cl fp) (fun s H C cl fp => PE.ex fun κ => he κ s H C cl fp) hs)) fun σ H Q ⟨ρ, Wo, rel, q⟩ => dcomp_core (mt_mt b) (fun S => mt_cn b S) rel q
/-! ### name = [..] and name = {..} on one line -/
theorem asg_unl {t : TE} {i : Nat} {D' : Ends} (h : t σ H fun v => UnL X fun H1 => D'.nx (σ.set i (some v)) H1) : tAsg t (gName i) ⟨fun σ' => UnL X (D'.nx σ'), fun v => UnL X (D'.rt v), fun σ' => UnL X (D'.bk σ'), fun σ' => UnL X (D'.ct σ')⟩ σ H := h
theorem own_ends {f : M D} {i : Nat} {D' : Ends} (q : EvS X.K κ W Wo H (gOwn i f ρ) D') : EvF X.K κ W Wo σ H (f ρ) (fun v H1 => D'.nx (σ.set i (some v)) H1) :=
  bindSF q fun p o H1 H' d ρ1 fr1 rel1 hp s e c q1 => q1 _ H' (wPlus Wo p) ⟨Fr.same s, fun l z => z.imp id fun z => by rw [z]; exact hp⟩ (rel1.own hp s e c)
theorem qs_ownLc {vs : List Nat} (i : Nat) {y : Str} {py spos : Pos} {elt : Expr} {fe : M D} (hc : X.calm = true) (hN : X.N.Nodup) (hi : QI X κ W tg iter fi) (ok : BlkOk X.N X.env.scope scope own) (hv : own.map (·.2) = vs)
    (hg : ∀ (κ : Kp) (s : Shared) (H : Hp) (C : Addr) (cl : List (Str × Addr)) (fp : List Addr), QG (X.blk s H scope (compEnvC scope cl C X.env) fp) κ vs tg gt)
    (ht : ∀ (κ : Kp) (s : Shared) (H : Hp) (C : Addr) (cl : List (Str × Addr)) (fp : List Addr), QTs (X.blk s H scope (compEnvC scope cl C X.env) fp) κ WF ifs tt)
    (he : ∀ (κ : Kp) (s : Shared) (H : Hp) (C : Addr) (cl : List (Str × Addr)) (fp : List Addr), QE (X.blk s H scope (compEnvC scope cl C X.env) fp) κ WF elt fe)
    (hy : X.N[i]? = some y := by rfl) (hyl : X.env.scope.names.lookup y = some .local := by rfl) (hsw : swapsWith (.ListComp elt [⟨tg, iter, ifs, 0⟩] scope pos) (some (.Name y py)) spos.line X.env = pure true := by rfl)
    (hs : ∀ x, foldedSetIterable iter X.env x = pure x := by intro _; rfl) : QS X κ W (.Assign [.Name y py] (.ListComp elt [⟨tg, iter, ifs, 0⟩] scope pos) spos) (gOwn i (gComp vs fi gt tt fe)) := by
  subst hv
  exact PS.imp (ps_unl (ps_setLc hc hN hy hyl hsw hi ok (fun s H C cl fp => PG.ex fun κ => hg κ s H C cl fp) (fun s H C cl fp => PTs.ex fun κ => ht κ s H C cl fp) (fun s H C cl fp => PE.ex fun κ => he κ s H C cl fp) hs)) fun D' σ H ⟨ρ, Wo, rel, q⟩ => asg_unl (comp_core rel (own_ends q))
end
end Qy

set_option Elab.async false
set_option linter.all false
set_option maxRecDepth 100000
/-! Q18: into a def and back. -/
namespace Qy
open PySem PySem.Spec L2
inductive Kd where
  | sh
  | bw
  | io
  deriving DecidableEq
section
variable {K : Fg} {κ : Kp} {ρ ρ' ρc : Rho} {Wo W' : Addr → Prop} {σ σ' : L2.St} {H H' : Hp} {ks : List Kd} {as : List ArgR} {vs : List V} {ds : List D} {n : Nat}
def slotD : Slot → Option D
  | .sh d => some d
  | .bw d => some d
  | .ow _ d => some d
  | .dp _ d => some (strip d)
  | _ => none
def argD (ρ : Rho) : Kd → ArgR → Option D
  | .sh, .v d => some d
  | .bw, .v d => some d
  | .bw, .s i => (ρ[i]?).bind slotD
  | .io, .s i => (match ρ[i]? with
    | some (.ow _ d) => some d
    | _ => none)
  | _, _ => none
def argDs (ρ : Rho) : List Kd → List ArgR → Option (List D)
  | [], [] => some []
  | k :: ks, a :: as => (argD ρ k a).bind fun d => (argDs ρ ks as).map fun ds => d :: ds
  | _, _ => none
def ioS : List Kd → List ArgR → List Nat
  | .io :: ks, .s i :: as => i :: ioS ks as
  | _ :: ks, _ :: as => ioS ks as
  | _, _ => []
def bwS : List Kd → List ArgR → List Nat
  | .bw :: ks, .s i :: as => i :: bwS ks as
  | _ :: ks, _ :: as => bwS ks as
  | _, _ => []
/-- no slot is handed in twice where it may be changed -/
def okA (ks : List Kd) (as : List ArgR) : Bool := decide (ioS ks as).Nodup && (bwS ks as).all fun i => !(ioS ks as).contains i
def rho1 : Nat → List Kd → List D → Rho
  | j, .sh :: ks, d :: ds => .sh d :: rho1 (j + 1) ks ds
  | j, .bw :: ks, d :: ds => .bw d :: rho1 (j + 1) ks ds
  | j, .io :: ks, d :: ds => .ow (some j) d :: rho1 (j + 1) ks ds
  | _, _, _ => []
def rho0 (ks : List Kd) (ds : List D) (n : Nat) : Rho := rho1 0 ks ds ++ List.replicate n .no
def IO (ks : List Kd) (vs : List V) : Addr → Prop := fun a => ∃ j : Nat, ks[j]? = some .io ∧ vs[j]? = some (.ref a)
def adr : V → Addr
  | .ref a => a
  | _ => 0
/-- what the callee keeps -/
noncomputable def callK (κ : Kp) (Wo : Addr → Prop) (H : Hp) (ks : List Kd) (vs : List V) : Kp := { Xh := fun a => (Wo a ∨ κ.Xh a) ∧ ¬ IO ks vs a, B := hide (IO ks vs) H, P := vs.map adr }
theorem argDs_at : ∀ {ks : List Kd} {as : List ArgR} {ds : List D}, argDs ρ ks as = some ds → ks.length = as.length ∧ ds.length = as.length ∧ ∀ (j : Nat) (k : Kd) (a : ArgR) (d : D), ks[j]? = some k → as[j]? = some a → ds[j]? = some d → argD ρ k a = some d
  | [], [], ds, h => by cases h; exact ⟨rfl, rfl, fun j k a d h => by simp at h⟩
  | [], _ :: _, _, h => by cases h
  | _ :: _, [], _, h => by cases h
  | k :: ks, a :: as, ds, h => by
    have h : (argD ρ k a).bind (fun d => (argDs ρ ks as).map fun ds => d :: ds) = some ds := h
    cases h1 : argD ρ k a with
    | none => rw [h1] at h; cases h
    | some d =>
      cases h2 : argDs ρ ks as with
      | none => rw [h1, h2] at h; cases h
      | some es =>
        rw [h1, h2] at h
        cases h
        obtain ⟨l1, l2, q⟩ := argDs_at h2
        refine ⟨by simp [l1], by simp [l2], fun j k' a' d' e1 e2 e3 => ?_⟩
        cases j with
        | zero => simp at e1 e2 e3; subst e1 e2 e3; exact h1
        | succ j => exact q j k' a' d' (by simpa using e1) (by simpa using e2) (by simpa using e3)
theorem ioS_mem : ∀ {ks : List Kd} {as : List ArgR} {j i : Nat}, ks[j]? = some .io → as[j]? = some (.s i) → i ∈ ioS ks as
  | [], _, j, _, h, _ => by simp at h
  | _ :: _, [], j, _, _, h => by simp at h
  | k :: ks, a :: as, 0, i, h1, h2 => by
    simp at h1 h2
    subst h1 h2
    exact List.mem_cons_self
  | k :: ks, a :: as, j + 1, i, h1, h2 => by
    have z := ioS_mem (ks := ks) (as := as) (j := j) (i := i) (by simpa using h1) (by simpa using h2)
    cases k <;> cases a <;> first | exact z | exact List.mem_cons_of_mem _ z
theorem bwS_mem : ∀ {ks : List Kd} {as : List ArgR} {j i : Nat}, ks[j]? = some .bw → as[j]? = some (.s i) → i ∈ bwS ks as
  | [], _, j, _, h, _ => by simp at h
  | _ :: _, [], j, _, _, h => by simp at h
  | k :: ks, a :: as, 0, i, h1, h2 => by
    simp at h1 h2
    subst h1 h2
    exact List.mem_cons_self
  | k :: ks, a :: as, j + 1, i, h1, h2 => by
    have z := bwS_mem (ks := ks) (as := as) (j := j) (i := i) (by simpa using h1) (by simpa using h2)
    cases k <;> cases a <;> first | exact z | exact List.mem_cons_of_mem _ z
theorem nodup_io : ∀ {ks : List Kd} {as : List ArgR}, (ioS ks as).Nodup → ∀ {j j' i : Nat}, ks[j]? = some Kd.io → as[j]? = some (ArgR.s i) → ks[j']? = some Kd.io → as[j']? = some (ArgR.s i) → j = j'
  | [], _, _, j, j', i, h, _, _, _ => by simp at h
  | _ :: _, [], _, j, j', i, _, h, _, _ => by simp at h
  | k :: ks, a :: as, hn, j, j', i, h1, h2, h3, h4 => by
    have hn' : (ioS ks as).Nodup := by cases k <;> cases a <;> first | exact hn | exact (List.nodup_cons.mp hn).2
    cases j with
    | zero =>
      cases j' with
      | zero => rfl
      | succ j' =>
        simp at h1 h2
        subst h1 h2
        exact absurd (ioS_mem (by simpa using h3) (by simpa using h4)) (List.nodup_cons.mp hn).1
    | succ j =>
      cases j' with
      | zero =>
        simp at h3 h4
        subst h3 h4
        exact absurd (ioS_mem (by simpa using h1) (by simpa using h2)) (List.nodup_cons.mp hn).1
      | succ j' => exact congrArg (· + 1) (nodup_io (i := i) hn' (by simpa using h1) (by simpa using h2) (by simpa using h3) (by simpa using h4))
theorem ArgsOk.at {S : Hp} : ∀ {as : List ArgR} {vs : List V}, ArgsOk K σ S as vs → as.length = vs.length ∧ ∀ (j : Nat) (a : ArgR) (v : V), as[j]? = some a → vs[j]? = some v → ArgOk K σ S a v
  | [], vs, h => by
    have h : vs = [] := h
    subst h
    exact ⟨rfl, fun j a v e => by simp at e⟩
  | a :: as, vs, h => by
    obtain ⟨v, r, rfl, q, z⟩ := h
    obtain ⟨l, q'⟩ := ArgsOk.at z
    refine ⟨by simp [l], fun j a' v' e1 e2 => ?_⟩
    cases j with
    | zero => simp at e1 e2; subst e1 e2; exact q
    | succ j => exact q' j a' v' (by simpa using e1) (by simpa using e2)
/-- the slots of the arguments -/
theorem io_slot (r : Rel K κ ρ Wo σ H) (hd : argDs ρ ks as = some ds) (ok : ArgsOk K σ (vw κ Wo H) as vs) {j : Nat} (hk : ks[j]? = some .io) : ∃ i t d l o, as[j]? = some (.s i) ∧ ρ[i]? = some (.ow t d) ∧ ds[j]? = some d ∧ σ[i]? = some (some (.ref l)) ∧ vs[j]? = some (.ref l) ∧ Wo l ∧ H l = some o ∧ Cn K (vw κ Wo H) d o := by
  obtain ⟨l1, l2, q⟩ := argDs_at hd
  obtain ⟨l3, q3⟩ := ok.at
  have hj : j < ks.length := (List.getElem?_eq_some_iff.mp hk).1
  have ha : as[j]? = some as[j] := by simp [l1 ▸ hj]
  have hdj : ds[j]? = some ds[j] := by simp [l2.trans l1.symm ▸ hj]
  have hv : vs[j]? = some vs[j] := by simp [l3 ▸ l1 ▸ hj]
  have e := q j _ _ _ hk ha hdj
  have e3 := q3 j _ _ ha hv
  cases haj : as[j] with
  | v d => rw [haj] at e; cases e
  | s i =>
    rw [haj] at e e3 ha
    have e : (match ρ[i]? with
      | some (.ow _ d) => some d
      | _ => none) = some ds[j] := e
    cases hr : ρ[i]? with
    | none => rw [hr] at e; cases e
    | some s =>
      rw [hr] at e
      cases s with
      | ow t d =>
        have e : some d = some ds[j] := e
        cases e
        obtain ⟨l, o, e1, w, h, c, _⟩ := r.ow i t _ hr
        have e3 : σ[i]? = some (some vs[j]) := e3
        rw [e1] at e3
        have e3 : V.ref l = vs[j] := by injection e3 with e3; injection e3
        exact ⟨i, t, _, l, o, ha, hr, hdj, e1, by rw [hv, ← e3], w, h, c⟩
      | _ => cases e
theorem IO_wo (r : Rel K κ ρ Wo σ H) (hd : argDs ρ ks as = some ds) (ok : ArgsOk K σ (vw κ Wo H) as vs) {a : Addr} (h : IO ks vs a) : Wo a := by
  obtain ⟨j, hk, hv⟩ := h
  obtain ⟨i, t, d, l, o, _, _, _, _, e, w, _⟩ := io_slot r hd ok hk
  rw [e] at hv; cases hv
  exact w
/-- a slot that is not handed in for change has another address -/
theorem IO_not (r : Rel K κ ρ Wo σ H) (hd : argDs ρ ks as = some ds) (ok : ArgsOk K σ (vw κ Wo H) as vs) {i : Nat} {t : Option Nat} {d : D} {l : Addr} (hi : ρ[i]? = some (.ow t d)) (hs : σ[i]? = some (some (.ref l))) (n : i ∉ ioS ks as) : ¬ IO ks vs l := by
  rintro ⟨j, hk, hv⟩
  obtain ⟨i', t', d', l', o, ha, hr, _, e1, e2, _⟩ := io_slot r hd ok hk
  rw [e2] at hv; cases hv
  exact n (by rw [r.dj i i' t t' d d' l hi hr hs e1]; exact ioS_mem hk ha)
theorem hide_IO (r : Rel K κ ρ Wo σ H) (hd : argDs ρ ks as = some ds) (ok : ArgsOk K σ (vw κ Wo H) as vs) : Ord (vw κ Wo H) (hide (IO ks vs) H) := hide_ord (fun a n _ z => n (.inl (IO_wo r hd ok z))) fun _ _ _ e => e
theorem B_IO (r : Rel K κ ρ Wo σ H) (hd : argDs ρ ks as = some ds) (ok : ArgsOk K σ (vw κ Wo H) as vs) : Ord κ.B (hide (IO ks vs) H) := by
  have key : ∀ a o, κ.B a = some o → ¬ IO ks vs a := fun a o e z => by
    rw [r.bn a (IO_wo r hd ok z)] at e; cases e
  refine ⟨fun a u n e => ?_, fun a u n e => ?_⟩
  · have nz : ¬ IO ks vs a := by
      rcases e with e | ⟨_, e⟩
      · exact key _ _ e
      · exact key _ _ e
    rcases r.bo.r a u n e with e | ⟨od, e⟩
    · exact .inl ((hide_out nz).trans e)
    · exact .inr ⟨od, (hide_out nz).trans e⟩
  · exact (hide_out (key _ _ e)).trans (r.bo.s a u n e)
theorem rho1_at : ∀ {j : Nat} {ks : List Kd} {ds : List D} {m : Nat} {s : Slot}, (rho1 j ks ds)[m]? = some s → ∃ k d, ks[m]? = some k ∧ ds[m]? = some d ∧ s = (match k with
    | .sh => .sh d
    | .bw => .bw d
    | .io => .ow (some (j + m)) d)
  | j, [], _, m, s, h => by simp [rho1] at h
  | j, k :: ks, [], m, s, h => by cases k <;> simp [rho1] at h
  | j, k :: ks, d :: ds, 0, s, h => by
    refine ⟨k, d, rfl, rfl, ?_⟩
    cases k <;> (simp [rho1] at h; subst h; rfl)
  | j, k :: ks, d :: ds, m + 1, s, h => by
    have h : (rho1 (j + 1) ks ds)[m]? = some s := by cases k <;> simpa [rho1] using h
    obtain ⟨k', d', h1, h2, h3⟩ := rho1_at h
    refine ⟨k', d', by simpa using h1, by simpa using h2, ?_⟩
    rw [h3, show j + 1 + m = j + (m + 1) by omega]
theorem rho1_len : ∀ {j : Nat} {ks : List Kd} {ds : List D}, ks.length = ds.length → (rho1 j ks ds).length = ks.length
  | j, [], _, _ => rfl
  | j, k :: ks, [], h => by simp at h
  | j, k :: ks, d :: ds, h => by
    have z := rho1_len (j := j + 1) (ks := ks) (ds := ds) (by simpa using h)
    cases k <;> simp [rho1, z]
theorem rho0_at {m : Nat} {s : Slot} (hl : ks.length = ds.length) (h : (rho0 ks ds n)[m]? = some s) : s = .no ∨ m < ks.length ∧ ∃ k d, ks[m]? = some k ∧ ds[m]? = some d ∧ s = (match k with
    | .sh => .sh d
    | .bw => .bw d
    | .io => .ow (some m) d) := by
  unfold rho0 at h
  rw [List.getElem?_append] at h
  split at h
  · rename_i hm
    obtain ⟨k, d, h1, h2, h3⟩ := rho1_at h
    rw [Nat.zero_add] at h3
    exact .inr ⟨by rw [rho1_len hl] at hm; exact hm, k, d, h1, h2, h3⟩
  · rw [List.getElem?_replicate] at h
    split at h
    · exact .inl (Option.some.inj h).symm
    · cases h
theorem Rel.into (r : Rel K κ ρ Wo σ H) (hd : argDs ρ ks as = some ds) (ok : ArgsOk K σ (vw κ Wo H) as vs) (ho : okA ks as = true) : Rel K (callK κ Wo H ks vs) (rho0 ks ds n) (IO ks vs) (vs.map some ++ List.replicate n none) H := by
  obtain ⟨l1, l2, q⟩ := argDs_at hd
  obtain ⟨l3, q3⟩ := ok.at
  have hl : ks.length = ds.length := l1.trans l2.symm
  have lv : vs.length = ks.length := (l1.trans l3).symm
  simp only [okA, Bool.and_eq_true, decide_eq_true_eq, List.all_eq_true] at ho
  obtain ⟨hnd, hbw⟩ := ho
  have views : vw (callK κ Wo H ks vs) (IO ks vs) H = vw κ Wo H := by
    funext a
    by_cases z : Wo a ∨ κ.Xh a
    · rw [show vw κ Wo H a = none from hide_in z]
      refine hide_in ?_
      by_cases y : IO ks vs a
      · exact .inl y
      · exact .inr ⟨z, y⟩
    · rw [show vw κ Wo H a = H a from hide_out z]
      exact hide_out fun y => y.elim (fun y => z (.inl (IO_wo r hd ok y))) fun y => z y.1
  have at' : ∀ {m : Nat} {s : Slot}, (rho0 ks ds n)[m]? = some s → s = .no ∨ ∃ k d v a, ks[m]? = some k ∧ ds[m]? = some d ∧ vs[m]? = some v ∧ (vs.map some ++ List.replicate n none)[m]? = some (some v) ∧ as[m]? = some a ∧ argD ρ k a = some d ∧ ArgOk K σ (vw κ Wo H) a v ∧ s = (match k with
    | .sh => .sh d
    | .bw => .bw d
    | .io => .ow (some m) d) := fun {m s} h => by
    rcases rho0_at hl h with h | ⟨hm, k, d, h1, h2, h3⟩
    · exact .inl h
    · have hv : vs[m]? = some vs[m] := by simp [lv ▸ hm]
      have ha : as[m]? = some as[m] := by simp [l1 ▸ hm]
      refine .inr ⟨k, d, vs[m], as[m], h1, h2, hv, ?_, ha, q _ _ _ _ h1 ha h2, q3 _ _ _ ha hv, h3⟩
      rw [List.getElem?_append_left (by simpa using lv ▸ hm)]
      simp [lv ▸ hm]
  exact {
    len := by simp [rho0, rho1_len hl, lv]
    xc := fun i d h => by
      rcases at' h with h | ⟨k, d', v, a, h1, h2, h3, h4, h5, h6, h7, h8⟩
      · cases h
      · cases k <;> cases h8
    sh := fun i d h => by
      rcases at' h with h | ⟨k, d', v, a, h1, h2, h3, h4, h5, h6, h7, h8⟩
      · cases h
      · cases k <;> cases h8
        cases a with
        | v d'' =>
          cases h6
          exact ⟨v, h4, by rw [views]; exact h7⟩
        | s _ => cases h6
    ow := fun i t d h => by
      rcases at' h with h | ⟨k, d', v, a, h1, h2, h3, h4, h5, h6, h7, h8⟩
      · cases h
      · cases k <;> cases h8
        obtain ⟨i', t', d'', l, o, e1, e2, e3, e4, e5, w, hh, c⟩ := io_slot r hd ok h1
        rw [h2] at e3; cases e3
        rw [h3] at e5; cases e5
        refine ⟨l, o, h4, ⟨i, h1, h3⟩, hh, by rw [views]; exact c, fun k e => ?_⟩
        cases e
        show (vs.map adr)[i]? = some l
        simp [h3, adr]
    dj := fun i j t t' d d' l hi hj h3 h4 => by
      rcases at' hi with h | ⟨k, d1, v, a, i1, i2, i3, i4, i5, i6, i7, i8⟩
      · cases h
      rcases at' hj with h | ⟨k', d1', v', a', j1, j2, j3, j4, j5, j6, j7, j8⟩
      · cases h
      cases k <;> cases i8
      cases k' <;> cases j8
      obtain ⟨p, t1, e1, l1, o1, a1, a2, a3, a4, a5, _⟩ := io_slot r hd ok i1
      obtain ⟨p', t2, e2, l2, o2, b1, b2, b3, b4, b5, _⟩ := io_slot r hd ok j1
      rw [i4] at h3; cases h3
      rw [j4] at h4; cases h4
      rw [i3] at a5; cases a5
      rw [j3] at b5; cases b5
      have e := r.dj p p' t1 t2 e1 e2 l a2 b2 a4 b4
      subst e
      exact nodup_io hnd i1 a1 j1 b1
    bw := fun i d h => by
      rcases at' h with h | ⟨k, d', v, a, h1, h2, h3, h4, h5, h6, h7, h8⟩
      · cases h
      · cases k <;> cases h8
        refine ⟨v, h4, ?_⟩
        show Rp K (hide (IO ks vs) H) d v
        cases a with
        | v d'' => cases h6; exact Rp.mono (hide_IO r hd ok) h7
        | s i' =>
          have h7 : σ[i']? = some (some v) := h7
          have h6 : (ρ[i']?).bind slotD = some d := h6
          cases hr : ρ[i']? with
          | none => rw [hr] at h6; cases h6
          | some s =>
            rw [hr] at h6
            have h6 : slotD s = some d := h6
            cases s with
            | no => cases h6
            | xc _ => cases h6
            | sh d0 =>
              cases h6
              obtain ⟨v', e1, rp⟩ := r.sh i' _ hr
              rw [h7] at e1; cases e1
              exact rp.mono (hide_IO r hd ok)
            | bw d0 =>
              cases h6
              obtain ⟨v', e1, rp⟩ := r.bw i' _ hr
              rw [h7] at e1; cases e1
              exact rp.mono (B_IO r hd ok)
            | ow t d0 =>
              cases h6
              obtain ⟨l, o, e1, w, hh, c, _⟩ := r.ow i' _ _ hr
              rw [h7] at e1; cases e1
              have nb : i' ∉ ioS ks as := by
                have := hbw i' (bwS_mem h1 h5)
                simpa using this
              exact (c.mono (hide_IO r hd ok)).rp ((hide_out (IO_not r hd ok hr h7 nb)).trans hh)
            | dp t d0 =>
              cases h6
              obtain ⟨Fp, hp⟩ := r.dp
              obtain ⟨v', e1, rq, _⟩ := hp.at_ i' t d0 hr
              rw [h7] at e1; cases e1
              refine Rq.rp (hide_IO r hd ok) (rq.mono (Ord.refl _) fun a m u e => ?_)
              refine (hide_out fun z => ?_).trans e
              obtain ⟨j, hj, hv⟩ := z
              obtain ⟨i2, t2, d2, l2, o2, a1, a2, a3, a4, a5, _⟩ := io_slot r hd ok hj
              rw [hv] at a5; cases a5
              exact hp.dw i' i2 t t2 d0 d2 a hr a2 a4 m
    bo := hide_le
    bd := fun l e => by
      by_cases z : IO ks vs l
      · exact hide_in z
      · exact (hide_out z).trans e
    bn := fun l w => hide_in w
    ht := fun l w => r.ht l (w.elim (fun w => .inl (IO_wo r hd ok w)) fun w => w.1)
    nx := fun l w z => z.2 w
    tu := fun l xs w => r.tu l xs (w.elim (fun w => .inl (IO_wo r hd ok w)) fun w => w.1)
    dp := DpX.none fun i t d h => by
      rcases at' h with h | ⟨k, d', v, a, h1, h2, h3, h4, h5, h6, h7, h8⟩
      · cases h
      · cases k <;> cases h8 }
/-! ### back -/
def backA (ρ' : Rho) : Nat → List Kd → List ArgR → Rho → Option Rho
  | j, .io :: ks, .s i :: as, ρ => (match ρ'[j]?, ρ[i]? with
    | some (.ow (some j') d'), some (.ow t _) => if j' = j then backA ρ' (j + 1) ks as (ρ.set i (.ow t d')) else none
    | _, _ => none)
  | _, .io :: _, .v _ :: _, _ => none
  | j, .sh :: ks, _ :: as, ρ => backA ρ' (j + 1) ks as ρ
  | j, .bw :: ks, _ :: as, ρ => backA ρ' (j + 1) ks as ρ
  | _, [], [], ρ => some ρ
  | _, _, _, _ => none
theorem backA_at : ∀ {ks : List Kd} {as : List ArgR} {j0 : Nat} {ρ ρc : Rho}, backA ρ' j0 ks as ρ = some ρc → ρc.length = ρ.length ∧
    (∀ (i : Nat) (s : Slot), ρc[i]? = some s → (ρ[i]? = some s ∧ i ∉ ioS ks as) ∨ ∃ (j : Nat) (t : Option Nat) (d d' : D), ks[j]? = some Kd.io ∧ as[j]? = some (ArgR.s i) ∧ ρ[i]? = some (.ow t d) ∧ ρ'[j0 + j]? = some (.ow (some (j0 + j)) d') ∧ s = .ow t d') ∧
    ∀ (j : Nat), ks[j]? = some Kd.io → ∃ d', ρ'[j0 + j]? = some (.ow (some (j0 + j)) d')
  | [], [], j0, ρ, ρc, h => by
    have h : some ρ = some ρc := h
    cases h
    exact ⟨rfl, fun i s e => .inl ⟨e, by simp [ioS]⟩, fun j e => by simp at e⟩
  | [], _ :: _, j0, ρ, ρc, h => by cases h
  | k :: _, [], j0, ρ, ρc, h => by cases k <;> cases h
  | k :: ks, a :: as, j0, ρ, ρc, h => by
    have plain : k ≠ .io → backA ρ' (j0 + 1) ks as ρ = some ρc → ioS (k :: ks) (a :: as) = ioS ks as → ρc.length = ρ.length ∧
        (∀ (i : Nat) (s : Slot), ρc[i]? = some s → (ρ[i]? = some s ∧ i ∉ ioS (k :: ks) (a :: as)) ∨ ∃ (j : Nat) (t : Option Nat) (d d' : D), (k :: ks)[j]? = some Kd.io ∧ (a :: as)[j]? = some (ArgR.s i) ∧ ρ[i]? = some (.ow t d) ∧ ρ'[j0 + j]? = some (.ow (some (j0 + j)) d') ∧ s = .ow t d') ∧
        ∀ (j : Nat), (k :: ks)[j]? = some Kd.io → ∃ d', ρ'[j0 + j]? = some (.ow (some (j0 + j)) d') := fun nk h e => by
      obtain ⟨l, q1, q2⟩ := backA_at h
      refine ⟨l, fun i s hs => ?_, fun j hj => ?_⟩
      · rcases q1 i s hs with ⟨z1, z2⟩ | ⟨j, t, d, d', z1, z2, z3, z4, z5⟩
        · exact .inl ⟨z1, by rw [e]; exact z2⟩
        · exact .inr ⟨j + 1, t, d, d', by simpa using z1, by simpa using z2, z3, by rw [show j0 + (j + 1) = j0 + 1 + j by omega]; exact z4, z5⟩
      · cases j with
        | zero => simp at hj; exact (nk hj).elim
        | succ j =>
          rw [show j0 + (j + 1) = j0 + 1 + j by omega]
          exact q2 j (by simpa using hj)
    cases k with
    | sh => exact plain (fun z => nomatch z) h (by cases a <;> rfl)
    | bw => exact plain (fun z => nomatch z) h (by cases a <;> rfl)
    | io =>
      cases a with
      | v d => cases h
      | s i0 =>
        have h : (match ρ'[j0]?, ρ[i0]? with
          | some (.ow (some j') d'), some (.ow t _) => if j' = j0 then backA ρ' (j0 + 1) ks as (ρ.set i0 (.ow t d')) else none
          | _, _ => none) = some ρc := h
        split at h
        · rename_i j' d0' t0 d0 e1 e2
          split at h
          · rename_i ej
            subst ej
            obtain ⟨l, q1, q2⟩ := backA_at h
            refine ⟨by rw [l, List.length_set], fun i s hs => ?_, fun j hj => ?_⟩
            · rcases q1 i s hs with ⟨z1, z2⟩ | ⟨j, t, d, d', z1, z2, z3, z4, z5⟩
              · rcases set_at z1 with ⟨rfl, rfl, _⟩ | ⟨ne, z1⟩
                · exact .inr ⟨0, t0, d0, d0', rfl, rfl, e2, e1, rfl⟩
                · exact .inl ⟨z1, fun z => by
                    rcases List.mem_cons.mp (show i ∈ i0 :: ioS ks as from z) with y | y
                    · exact ne y.symm
                    · exact z2 y⟩
              · rcases set_at z3 with ⟨e0, e3, _⟩ | ⟨ne, z3⟩
                · cases e3
                  subst e0
                  exact .inr ⟨j + 1, t0, d0, d', by simpa using z1, by simpa using z2, e2, by rw [show j' + (j + 1) = j' + 1 + j by omega]; exact z4, z5⟩
                · exact .inr ⟨j + 1, t, d, d', by simpa using z1, by simpa using z2, z3, by rw [show j' + (j + 1) = j' + 1 + j by omega]; exact z4, z5⟩
            · cases j with
              | zero => exact ⟨d0', e1⟩
              | succ j =>
                rw [show j' + (j + 1) = j' + 1 + j by omega]
                exact q2 j (by simpa using hj)
          · cases h
        · cases h
/-- behind the call -/
theorem Rel.outof (r : Rel K κ ρ Wo σ H) (hd : argDs ρ ks as = some ds) (ok : ArgsOk K σ (vw κ Wo H) as vs) (p : Post (IO ks vs) H W' H') (r' : Rel K (callK κ Wo H ks vs) ρ' W' σ' H') (hb : backA ρ' 0 ks as ρ = some ρc) :
    Fr Wo H H' ∧ Rel K κ ρc Wo σ H' ∧ Ord (vw (callK κ Wo H ks vs) W' H') (vw κ Wo H') := by
  obtain ⟨lb, b1, b2⟩ := backA_at hb
  have io : ∀ {a}, IO ks vs a → Wo a := fun z => IO_wo r hd ok z
  have ioW : ∀ {a}, IO ks vs a → W' a := fun {a} ⟨j, hk, hv⟩ => by
    obtain ⟨d', e⟩ := b2 j hk
    rw [Nat.zero_add] at e
    obtain ⟨l, o, e1, w, hh, c, tag⟩ := r'.ow j _ _ e
    have z := tag j rfl
    have z : (vs.map adr)[j]? = some l := z
    rw [List.getElem?_map, hv] at z
    cases z
    exact w
  have fr : Fr Wo H H' := fun b o n e => p.fr b o (fun z => n (io z)) e
  have vo : Ord (vw (callK κ Wo H ks vs) W' H') (vw κ Wo H') := hide_ord (fun a n _ z => by
    by_cases y : IO ks vs a
    · exact n (.inl (ioW y))
    · exact n (.inr ⟨z, y⟩)) fun _ _ _ e => e
  refine ⟨fr, ?_, vo⟩
  exact {
    len := lb.trans r.len
    xc := fun i d h => by
      rcases b1 i _ h with ⟨z, _⟩ | ⟨j, t, d, d', _, _, _, _, z⟩
      · obtain ⟨e, q⟩ := r.xc i d z
        exact ⟨e, q.mono (Ord.fr fr)⟩
      · cases z
    sh := fun i d h => by
      rcases b1 i _ h with ⟨z, _⟩ | ⟨j, t, d, d', _, _, _, _, z⟩
      · obtain ⟨v, e, q⟩ := r.sh i d z
        exact ⟨v, e, q.mono (Ord.fr fr)⟩
      · cases z
    ow := fun i t d h => by
      rcases b1 i _ h with ⟨z, n⟩ | ⟨j, t', d0, d', z1, z2, z3, z4, z5⟩
      · obtain ⟨l, o, e, w, hh, c, tag⟩ := r.ow i t d z
        exact ⟨l, o, e, w, p.fr l o (IO_not r hd ok z e n) hh, c.mono (Ord.fr fr), tag⟩
      · cases z5
        obtain ⟨l, o, e, w, hh, c, tag⟩ := r.ow i t d0 z3
        obtain ⟨i', t2, d2, l2, o2, a1, a2, a3, a4, a5, _⟩ := io_slot r hd ok z1
        rw [z2] at a1; cases a1
        rw [e] at a4; cases a4
        rw [Nat.zero_add] at z4
        obtain ⟨l', o', e1, w', hh', c', tag'⟩ := r'.ow j _ _ z4
        have zz : (vs.map adr)[j]? = some l' := tag' j rfl
        rw [List.getElem?_map, a5] at zz
        cases zz
        exact ⟨l, o', e, w, hh', c'.mono vo, tag⟩
    dj := fun i j t t' d d' l hi hj h3 h4 => by
      have key : ∀ {i : Nat} {t : Option Nat} {d : D}, ρc[i]? = some (Slot.ow t d) → ∃ t' d', ρ[i]? = some (Slot.ow t' d') := fun {i t d} h => by
        rcases b1 i _ h with ⟨z, n⟩ | ⟨j, t', d0, d', z1, z2, z3, z4, z5⟩
        · exact ⟨_, _, z⟩
        · exact ⟨_, _, z3⟩
      obtain ⟨_, _, z1⟩ := key hi
      obtain ⟨_, _, z2⟩ := key hj
      exact r.dj i j _ _ _ _ l z1 z2 h3 h4
    bw := fun i d h => by
      rcases b1 i _ h with ⟨z, _⟩ | ⟨j, t, d, d', _, _, _, _, z⟩
      · exact r.bw i d z
      · cases z
    bo := (B_IO r hd ok).trans r'.bo
    bd := fun l e => by
      cases h : H l with
      | none => exact r.bd l h
      | some o =>
        by_cases z : IO ks vs l
        · exact r.bn l (io z)
        · rw [p.fr l o z h] at e; cases e
    bn := r.bn
    ht := fun l w => by
      by_cases z : IO ks vs l
      · exact r'.ht l (.inl (ioW z))
      · exact r'.ht l (.inr ⟨w, z⟩)
    nx := r.nx
    tu := fun l xs w => by
      by_cases z : IO ks vs l
      · exact r'.tu l xs (.inl (ioW z))
      · exact r'.tu l xs (.inr ⟨w, z⟩)
    dp := by
      refine r.dp.tr (fun i t d h => ?_) (fun i t d l h e => ?_) (fun a w na => ⟨w, fun u z => ?_⟩) (Ord.fr fr)
      · rcases b1 i _ h with ⟨z, _⟩ | ⟨j, t, d, d', _, _, _, _, z⟩
        · exact ⟨z, rfl, fun _ _ _ z => z⟩
        · cases z
      · rcases b1 i _ h with ⟨z, n⟩ | ⟨j, t', d0, d', z1, z2, z3, z4, z5⟩
        · exact .inl ⟨_, _, z, e⟩
        · exact .inl ⟨_, _, z3, e⟩
      · refine p.fr a u (fun y => ?_) z
        obtain ⟨j, hj, hv⟩ := y
        obtain ⟨i2, t2, d2, l2, o2, a1, a2, a3, a4, a5, _⟩ := io_slot r hd ok hj
        rw [hv] at a5; cases a5
        exact na i2 t2 d2 a2 a4 }
end
end Qy

set_option Elab.async false
set_option linter.all false
set_option maxRecDepth 100000
/-! Q19: defs: what they promise, their calls. -/
namespace Qy
open PySem PySem.Spec L2 PyProof.Rows
section
variable {K : Fg} {κ : Kp} {W : WX} {ρ ρ' ρc : Rho} {Wo W' : Addr → Prop} {σ σ' : L2.St} {H H' : Hp} {ks : List Kd} {as : List ArgR} {vs : List V} {ds : List D} {n : Nat} {g : M Fl}
def endsOf (Q : VK) : Ends := { nx := fun _ H' => Q .non H', rt := Q }
/-- a def's promise -/
def SpG (K : Fg) (ks : List Kd) (n m : Nat) (g : M Fl) : Sp := fun vs H Q E => vs.length = m ∧ ∃ κ Wo ds, Rel K κ (rho0 ks ds n) Wo (vs.map some ++ List.replicate n none) H ∧ EvS K κ (fun cls dd _ H => E cls dd H) Wo H (g (rho0 ks ds n)) (endsOf Q)
abbrev FnQ (P : Program) (w : World) (K : Fg) (mg : Str → Option Value) (base : Heap) (k : Nat) (f : Addr) (fd : FuncData) (ps : List Str) (ks : List Kd) (n : Nat) (g : M Fl) : Prop := FnOk P w K mg base (L2.CX P w) k f fd ps (SpG K ks n ps.length g)
abbrev cxB (P : Program) (w : World) (K : Fg) (mg : Str → Option Value) (base : Heap) (N : List Str) (qual : Str) (scope : Scope) (f : Addr) (cd : Value) (A : Around) (outer : List Env) (s : Shared) (H : Hp) (E : XK) : Cx := cxOf (L2.CX P w) P w K mg base N qual scope f cd A outer s H E
abbrev WB (E : XK) : WX := fun cls dd _ H => E cls dd H
theorem fnq_of {P : Program} {w : World} {mg : Str → Option Value} {base : Heap} {k : Nat} {f : Addr} {fd : FuncData} {x qual : Str} {params : Arguments} {body : List Stmt} {scope : Scope} {dvs : List V} {kws : List (Str × V)} {N ps : List Str}
    (F : FunD K x qual params body scope dvs kws f fd) (S : FnScope N ps scope) (hn : N.length - ps.length = n)
    (hb : ∀ (cd : Value) (A : Around) (outer : List Env) (s : Shared) (H : Hp) (E : XK) (κ : Kp), Room k (A.deeper (envOfC qual scope s.heap.objs.size f cd)) → QSs (cxB P w K mg base N qual scope f cd A outer s H E) κ (WB E) body g) : FnQ P w K mg base (k + 1) f fd ps ks n g :=
  FunD.ok F S (fun _ _ _ _ h => h.1) fun cd A outer s H vs Q E hr ⟨hl, κ, Wo, ds, rel, q⟩ => ⟨_, hb cd A outer s H E κ hr, rho0 ks ds n, Wo, by
    unfold L2.start
    rw [hl, hn]
    exact rel, q⟩
/-! ### what a call does -/
def fin {α : Type} (o : Option Rho) (k : Rho → Qy.R α) : Qy.R α := match o with
  | some ρ => k ρ
  | none => .st
def callD (ks : List Kd) (n : Nat) (g : M Fl) (as : List ArgR) : M D := fun ρ => if okA ks as = true then (match argDs ρ ks as with
    | none => .st
    | some ds => (match g (rho0 ks ds n) with
      | .ok .nx ρ' => fin (backA ρ' 0 ks as ρ) (.ok .non)
      | .ok (.rt d) ρ' => fin (backA ρ' 0 ks as ρ) (.ok d)
      | .ok (.rf d) ρ' => if ks.contains .io = true then .st else .ok d ρ
      | .ok (.rn d) ρ' => if ks.contains .io = true then .st else .ok (strip d) ρ
      | .er e ρ' => fin (backA ρ' 0 ks as ρ) (.er e)
      | _ => .st))
  else .st
def gCall (ks : List Kd) (n : Nat) (g : M Fl) (fa : M (List ArgR)) : M D := bnd fa (callD ks n g)
theorem noIO (h : ks.contains .io = false) {a : Addr} : ¬ IO ks vs a := fun ⟨j, hk, _⟩ => by
  have : ks.contains .io = true := List.contains_iff_mem.mpr (List.mem_of_getElem? hk)
  rw [h] at this; cases this
/-- a new thing handed back -/
theorem call_new (r : Rel K κ ρ Wo σ H) (h : ks.contains .io = false) (p : Post (IO ks vs) H W' H') {a : Addr} {o : HO} {d : D} (w : W' a) (e : H' a = some o) (c : Cn K (vw (callK κ Wo H ks vs) W' H') d o) :
    H a = none ∧ Same H (cut H' a) ∧ Rel K κ ρ Wo σ (cut H' a) ∧ Cn K (vw κ (wPlus Wo a) H') d o := by
  have ha : H a = none := (p.wo a w).elim (fun z => (noIO h z).elim) id
  have sm : Same H (cut H' a) := fun b u hb => by
    rw [cut_ne (fun z => by rw [z, ha] at hb; cases hb)]
    exact p.fr b u (noIO h) hb
  refine ⟨ha, sm, r.same sm, c.mono (hide_ord (fun b n hb z => ?_) fun _ _ _ e => e)⟩
  rcases z with (z | z) | z
  · exact n (.inr ⟨.inl z, noIO h⟩)
  · exact n (.inl (by rw [z]; exact w))
  · exact n (.inr ⟨.inr z, noIO h⟩)
theorem Rq.rp2 {K : Fg} {S H S' : Hp} {d : D} {v : V} {F : List Addr} (q : Rq K S H d v F) (o : Ord S S') (k : ∀ a ∈ F, ∀ u, H a = some u → S' a = some u) : Rp K S' (strip d) v := Rq.rp (Ord.refl S') (q.mono o k)
/-- new parts are not what was hidden -/
theorem new_out {F : List Addr} (r : Rel K κ ρ Wo σ H) (h : ks.contains .io = false) (p : Post (IO ks vs) H W' H') (nw : ∀ a ∈ F, W' a) : (∀ a ∈ F, H a = none) ∧ Same H H' ∧ Rel K κ ρ Wo σ H' ∧ (∀ a ∈ F, ¬ (Wo a ∨ κ.Xh a)) ∧ Ord (vw (callK κ Wo H ks vs) W' H') (vw κ Wo H') := by
  have n : ∀ a ∈ F, H a = none := fun a z => (p.wo a (nw a z)).elim (fun z => (noIO h z).elim) id
  have sm : Same H H' := fun b u hb => p.fr b u (noIO h) hb
  refine ⟨n, sm, r.same sm, fun a z y => r.ht a y (n a z), hide_ord (fun a n2 _ z => n2 (.inr ⟨z, noIO h⟩)) fun _ _ _ e => e⟩
theorem call_core {Q : VK} {m : Nat} (hm : vs.length = m) (r : Rel K κ ρ Wo σ H) (ok : ArgsOk K σ (vw κ Wo H) as vs) (q : EvG (fun S _ => Rp K S) K κ W Wo σ H (callD ks n g as ρ) Q) : SpG K ks n m g vs H Q (WE W σ) := by
  unfold callD at q
  split at q
  · rename_i ho
    cases hd : argDs ρ ks as with
    | none => rw [hd] at q; exact q.elim
    | some ds =>
      rw [hd] at q
      refine ⟨hm, _, _, ds, r.into hd ok ho, ?_⟩
      have out : ∀ {α : Type} {ρ' : Rho} {k : Rho → Qy.R α} {σ' : L2.St} {H' : Hp} {W' : Addr → Prop} {P : Prop} {q' : Qy.R α → Prop}, q' (fin (backA ρ' 0 ks as ρ) k) → ¬ q' .st → Post (IO ks vs) H W' H' → Rel K (callK κ Wo H ks vs) ρ' W' σ' H' →
          (∀ ρc, Fr Wo H H' → Rel K κ ρc Wo σ H' → Ord (vw (callK κ Wo H ks vs) W' H') (vw κ Wo H') → q' (k ρc) → P) → P := fun {α ρ' k σ' H' W' P q'} hq hn p r' i => by
        cases hb : backA ρ' 0 ks as ρ with
        | none => rw [hb] at hq; exact (hn hq).elim
        | some ρc =>
          rw [hb] at hq
          obtain ⟨f1, r1, o1⟩ := r.outof hd ok p r' hb
          exact i ρc f1 r1 o1 hq
      cases hg : g (rho0 ks ds n) with
      | st => simp only [hg] at q; exact q.elim
      | er e ρ' =>
        simp only [hg] at q
        intro cls dd σ' H' W' p r' x
        exact out (q' := fun r => EvG (fun S _ => Rp K S) K κ W Wo σ H r Q) q (fun z => z) p r' fun ρc f1 r1 o1 q1 => q1 cls dd H' f1 r1 (x.up o1)
      | ok fl ρ' =>
        simp only [hg] at q
        intro σ' H' W' p r'
        cases fl with
        | nx => exact out (q' := fun r => EvG (fun S _ => Rp K S) K κ W Wo σ H r Q) q (fun z => z) p r' fun ρc f1 r1 o1 q1 => q1 .non H' f1 r1 rp_non
        | rt d => exact fun v rp => out (q' := fun r => EvG (fun S _ => Rp K S) K κ W Wo σ H r Q) q (fun z => z) p r' fun ρc f1 r1 o1 q1 => q1 v H' f1 r1 (rp.mono o1)
        | rf d =>
          intro a o w e c
          simp only at q
          split at q
          · exact q.elim
          · rename_i hio
            have hio : ks.contains .io = false := by simpa using hio
            obtain ⟨ha, sm, r1, c1⟩ := call_new r hio p w e c
            refine q (.ref a) H' (fun b u n hb => p.fr b u (noIO hio) hb) (r1.same cut_same) ?_
            exact (c1.mono (hide_ord (fun a n _ z => n (z.imp .inl id)) fun _ _ _ e => e)).rp ((hide_out ((r.free ha))).trans e)
        | rn d =>
          intro v F nd nw rq
          simp only at q
          split at q
          · exact q.elim
          · rename_i hio
            have hio : ks.contains .io = false := by simpa using hio
            obtain ⟨n, sm, r1, ho, or⟩ := new_out r hio p nw
            exact q v H' (Fr.same sm) r1 (rq.rp2 or fun a m u e => (hide_out (ho a m)).trans e)
        | bk => exact q.elim
        | ct => exact q.elim
  · exact q.elim
end
/-! ### f(e, ..) -/
section
variable {X : Cx} {κ : Kp} {W : WX} {k n : Nat} {f : Addr} {fd : FuncData} {ps : List Str} {ks : List Kd} {g : M Fl} {x : Str} {p pos : Pos} {e : Expr} {es : List Expr} {fa : M (List ArgR)}
theorem argDs_len {ρ : Rho} {as : List ArgR} {ds : List D} (h : argDs ρ ks as = some ds) : ks.length = as.length := (argDs_at h).1
theorem callD_len {ρ : Rho} {as : List ArgR} (h : callD ks n g as ρ ≠ .st) : as.length = ks.length := by
  unfold callD at h
  split at h
  · cases hd : argDs ρ ks as with
    | none => rw [hd] at h; exact (h rfl).elim
    | some ds => exact (argDs_len hd).symm
  · exact (h rfl).elim
theorem qe_call (F : FnQ X.prog X.w X.K X.mg X.base k f fd ps ks n g) (hr : Room k X.A) (tk : Takes X W) (hm : X.mg x = some (.ref f)) (hk : PySem.W.keepIn X.K (.ref f) = true) (hb : Binds X.K fd ps []) (ha : QA X κ W (e :: es) fa) (hl : ks.length = ps.length := by rfl)
    (hg : Gl X x := by rfl) (hdb : (x == ("__debug__" : Str)) = false := by decide) (he : starEach (e :: es) X.env = (false, eval e X.env) :: starEach es X.env := by rfl) (hpl : (backTo pos (starEach es X.env)).any (·.1) = false := by rfl) :
    QE X κ W (.Call (.Name x p) (e :: es) [] pos) (gCall ks n g fa) :=
  PE.imp (pe_callS F hr hg hm hk hb (fun σ => passAt tk σ) ha hdb he hpl) fun σ H Q ⟨ρ, Wo, rel, q⟩ => by
    refine ⟨ρ, Wo, rel, (EvG.bind q).imp fun vs H1 ⟨as, ρ1, fr, r1, ok, q1⟩ => ?_⟩
    refine call_core ?_ r1 ok q1
    have h : callD ks n g as ρ1 ≠ .st := fun z => by rw [z] at q1; exact q1
    rw [← (ok.at).1, callD_len h, hl]
end
end Qy

set_option Elab.async false
set_option linter.all false
set_option maxRecDepth 100000
/-! Q20: instances: attributes, methods, making. -/
namespace Qy
open PySem PySem.Spec L2 PyProof.Rows
section
variable {K : Fg} {κ : Kp} {W : WX} {ρ ρ' ρc : Rho} {Wo W' : Addr → Prop} {σ σ' : L2.St} {H H' : Hp} {S : Hp}
/-! ### attributes -/
def getF (f : Str) : List Str → List D → Option D
  | n :: ns, d :: ds => if f = n then some d else getF f ns ds
  | _, _ => none
theorem getF_ok {f : Str} : ∀ {fs : List (Str × V)} {ds : List D} {d : D}, Rps K S ds (fs.map (·.2)) → getF f (fs.map (·.1)) ds = some d → ∃ v, fs.lookup f = some v ∧ Rp K S d v
  | [], ds, d, _, e => by cases ds <;> cases e
  | (n, v) :: fs, [], d, h, e => by cases e
  | (n, v) :: fs, x :: ds, d, h, e => by
    simp only [List.map_cons, Rps] at h
    obtain ⟨w, r, e1, q, z⟩ := h
    cases e1
    have e : (if f = n then some x else getF f (fs.map (·.1)) ds) = some d := e
    by_cases hf : f = n
    · rw [if_pos hf] at e; cases e
      exact ⟨v, by rw [List.lookup_cons, hf, beq_self_eq_true], q⟩
    · rw [if_neg hf] at e
      obtain ⟨v', l, q'⟩ := getF_ok z e
      exact ⟨v', by rw [List.lookup_cons, beq_eq_false_iff_ne.mpr hf]; exact l, q'⟩
theorem getF_no {f : Str} {fs : List (Str × V)} (h : f ∉ fs.map (·.1)) : fs.lookup f = none := by
  induction fs with
  | nil => rfl
  | cons p fs ih =>
    obtain ⟨n, v⟩ := p
    simp only [List.map_cons, List.mem_cons, not_or] at h
    rw [List.lookup_cons, beq_eq_false_iff_ne.mpr h.1]
    exact ih h.2
def fldD (c f : Str) : D → Option D
  | .obj c' ns ds => if c' = c then getF f ns ds else none
  | _ => none
theorem rp_fld {c f : Str} {d x : D} {v : V} (h : Rp K S d v) (e : fldD c f d = some x) : ∃ a dx fs w, v = .ref a ∧ S a = some (.ins (He.ga K c) dx fs) ∧ fs.lookup f = some w ∧ Rp K S x w := by
  cases d <;> try (cases e; done)
  rename_i c' ns ds
  have e : (if c' = c then getF f ns ds else none) = some x := e
  by_cases hc : c' = c
  · subst hc
    rw [if_pos rfl] at e
    simp only [Rp] at h
    obtain ⟨a, dx, fs, rfl, ha, rfl, rs⟩ := h
    obtain ⟨w, l, q⟩ := getF_ok rs e
    exact ⟨a, dx, fs, w, rfl, ha, l, q⟩
  · rw [if_neg hc] at e; cases e
/-! ### stores -/
def putN (f : Str) : List Str → List Str
  | [] => [f]
  | g :: ns => if g = f then g :: ns else g :: putN f ns
def putV (f : Str) (y : D) : List Str → List D → List D
  | [], _ => [y]
  | g :: ns, x :: ds => if g = f then y :: ds else x :: putV f y ns ds
  | _ :: _, [] => []
theorem putF_ok {f : Str} {y : D} {v : V} (q : Rp K S y v) : ∀ {fs : List (Str × V)} {ds : List D}, Rps K S ds (fs.map (·.2)) → (putF f v fs).map (·.1) = putN f (fs.map (·.1)) ∧ Rps K S (putV f y (fs.map (·.1)) ds) ((putF f v fs).map (·.2))
  | [], ds, h => ⟨rfl, rps_cons q rps_nil⟩
  | (g, x) :: fs, ds, h => by
    simp only [List.map_cons] at h
    cases ds with
    | nil => simp only [Rps] at h; cases h
    | cons d ds =>
      simp only [Rps] at h
      obtain ⟨w, r, e1, q1, z⟩ := h
      cases e1
      unfold putF
      by_cases hg : g = f
      · rw [if_pos hg]
        refine ⟨by simp [putN, hg], ?_⟩
        show Rps K S (if g = f then y :: ds else d :: putV f y (fs.map (·.1)) ds) _
        rw [if_pos hg]
        exact rps_cons q z
      · rw [if_neg hg]
        obtain ⟨h1, h2⟩ := putF_ok (f := f) q z
        refine ⟨by simp [putN, hg, h1], ?_⟩
        show Rps K S (if g = f then y :: ds else d :: putV f y (fs.map (·.1)) ds) _
        rw [if_neg hg]
        exact rps_cons q1 h2
end
section
variable {X : Cx} {κ : Kp} {W : WX} {ρ : Rho} {Wo : Addr → Prop} {σ : L2.St} {H : Hp} {c f : Str} {e o : Expr} {es : List Expr} {fe fo : M D} {pos pos' apos : Pos}
theorem qe_fld (c : Str) (he : QE X κ W e fe) (hc : Cls X.K (He.ga X.K c)) (hn : NoAttr X.K (He.ga X.K c) f) (hb : attributeBase e f X.env (eval e X.env) = eval e X.env := by rfl) : QE X κ W (.Attribute e f pos) (bnd fe fun d => ofO (fldD c f d)) :=
  PE.imp (pe_fld he hb) fun σ H Q ⟨ρ, Wo, rel, q⟩ => by
    refine ⟨ρ, Wo, rel, (EvG.bind q).imp fun v H1 ⟨d, ρ1, fr, r1, rp, q1⟩ => ?_⟩
    cases hx : fldD c f d with
    | none => rw [hx] at q1; exact q1.elim
    | some x =>
      rw [hx] at q1
      obtain ⟨a, dx, fs, w, rfl, ha, l, rw'⟩ := rp_fld rp hx
      exact ⟨a, _, dx, fs, w, rfl, (hide_some ha).2, hc, hn, l, q1 w H1 (.refl _) r1 rw'⟩
/-- self.f = e -/
def gPutF (c f : Str) (i : Nat) (y : D) : M Fl := fun ρ => match ρ[i]? with
  | some (.ow t (.obj c' ns ds)) => if c' = c ∧ ns.length < 1000 then .ok .nx (ρ.set i (.ow t (.obj c' (putN f ns) (putV f y ns ds)))) else .st
  | _ => .st
def gSetF (c f : Str) (i : Nat) (fe : M D) : M Fl := bnd fe (gPutF c f i)
theorem qs_setF (c : Str) (i : Nat) {x : Str} {p : Pos} (he : QE X κ W e fe) (hc : Cls X.K (He.ga X.K c)) (hn : NoAttr X.K (He.ga X.K c) f) (hs : swapsWith e (some (.Attribute (.Name x p) f pos')) pos.line X.env = pure false := by rfl)
    (hN : X.N[i]? = some x := by rfl) (hv : Vis X.env.scope x := by first | exact Or.inl rfl | exact Or.inr (Or.inl rfl) | exact Or.inr (Or.inr rfl)) (hd : (x == ("__debug__" : Str)) = false := by decide)
    (hcd : (x == ("__classdict__" : Str)) = false := by decide) : QS X κ W (.Assign [.Attribute (.Name x p) f pos'] e pos) (gSetF c f i fe) :=
  PS.imp (ps_fld (pe_var hN hv hd hcd) he hs) fun D' σ H ⟨ρ, Wo, rel, q⟩ => ⟨ρ, Wo, rel, bindS q fun v H1 d ρ1 fr1 rel1 rp q1 => by
    unfold gPutF at q1
    cases hr : ρ1[i]? with
    | none => rw [hr] at q1; exact q1.elim
    | some s =>
      rw [hr] at q1
      cases s with
      | ow t d1 =>
        cases d1 with
        | obj c' ns ds =>
          simp only at q1
          split at q1
          · rename_i hcc
            obtain ⟨rfl, hlen⟩ := hcc
            obtain ⟨l, u, e1, w, hh, cn, _⟩ := rel1.ow i t _ hr
            cases u <;> try exact cn.elim
            obtain ⟨rfl, rfl, rs⟩ := cn
            obtain ⟨p1, p2⟩ := putF_ok (f := f) rp rs
            exact ⟨_, e1, l, _, _, _, rfl, hh, hc, hn, by rw [List.length_map] at hlen; exact hlen, q1 σ _ Wo (Post.of (Fr.put w)) (rel1.put hr e1 ⟨rfl, p1, p2⟩)⟩
          · exact q1.elim
        | _ => exact q1.elim
      | _ => exact q1.elim⟩
/-! ### a def run at any depth -/
end
/-! ### methods -/
section
variable {X : Cx} {κ : Kp} {W : WX} {k n : Nat} {f C : Addr} {fd : FuncData} {ps : List Str} {ks : List Kd} {g : M Fl} {m c : Str} {x : Str} {p pos apos : Pos} {o e : Expr} {es : List Expr} {fo : M D} {fa : M (List ArgR)} {ta : TE} {t : TA} {sp : Sp}
def tMethS (C : Addr) (m : Str) (sp : Sp) (W : WX) (ta : TE) (t : TA) : TE := fun σ H Q => ta σ H fun x H1 => ∃ a dx fs, x = .ref a ∧ H1 a = some (.ins C dx fs) ∧ fs.lookup m = none ∧ t σ H1 fun vs H2 => sp (x :: vs) H2 Q (WE W σ)
theorem pe_methQ0 {pl : Sem Bool} (he : PE X o ta) (cl : Cls X.K C) (hm : Meth X.K C m f) (F : FnOk X.prog X.w X.K X.mg X.base (L2.CX X.prog X.w) k f fd ps sp) (hr : Room k X.A) (hb : Binds X.K fd ps []) (tk : Takes X W)
    (ht : eval (.Call (.Attribute o m apos) [] [] pos) X.env = (do
      let ov ← eval o X.env
      standAt apos.atName
      let (f, first) ← holding [ov] (getMethod ov m pl)
      callWith pos f first (backTo pos (starEach [] X.env)) (backToKw pos (keywordEach [] X.env))) := by rfl) :
    PE X (.Call (.Attribute o m apos) [] [] pos) (tMethS C m sp W ta tNil) := by
  refine ⟨fun pins s σ H Q I h => ?_⟩
  refine PySem.W.methodCall_KW (pl := pl) (thn (he.run pins s σ H _ I h) fun u s1 ⟨x, H1, I1, rx, a, dx, fs, ex, ea, l, q⟩ => ?_) ht
  subst ex
  obtain rfl : u = Value.ref a := rx
  refine getmeth_ok I1 ea cl hm l ?_
  exact PySem.W.callWith_K0 (first := [.ref a]) I1.kIn hm.kp (run_fnS (us := [.ref a]) (vs := [.ref a]) F hr hb (passAt tk σ) I1 (.cons rfl .nil) q)
/-- an instance of c without an attribute of its own by the name -/
def insOk (c m : Str) : D → Bool
  | .obj c' ns _ => decide (c' = c) && !ns.contains m
  | _ => false
theorem rp_ins {K : Fg} {S : Hp} {d : D} {v : V} (h : Rp K S d v) (e : insOk c m d = true) : ∃ a dx fs, v = .ref a ∧ S a = some (.ins (He.ga K c) dx fs) ∧ fs.lookup m = none := by
  cases d <;> try (cases e; done)
  rename_i c' ns ds
  simp only [insOk, Bool.and_eq_true, decide_eq_true_eq, Bool.not_eq_true'] at e
  obtain ⟨rfl, hm⟩ := e
  simp only [Rp] at h
  obtain ⟨a, dx, fs, rfl, ha, rfl, rs⟩ := h
  exact ⟨a, dx, fs, rfl, ha, getF_no (by simpa using hm)⟩
def gMeth (c m : Str) (ks : List Kd) (n : Nat) (g : M Fl) (fo : M D) (fa : M (List ArgR)) : M D := bnd fo fun d => if insOk c m d = true then bnd fa fun as => callD ks n g (.v d :: as) else stuck
theorem argsOk_cons {K : Fg} {σ : L2.St} {S : Hp} {a : ArgR} {as : List ArgR} {v : V} {vs : List V} (h : ArgOk K σ S a v) (t : ArgsOk K σ S as vs) : ArgsOk K σ S (a :: as) (v :: vs) := ⟨v, vs, rfl, h, t⟩
section
variable {ρ : Rho} {Wo : Addr → Prop} {σ : L2.St} {H : Hp}
theorem methD_core {Q : VK} {l : Nat} (hl : ks.length = l) (rel : Rel X.K κ ρ Wo σ H) (q : EvG (fun S _ => Rp X.K S) X.K κ W Wo σ H (gMeth c m ks n g fo fa ρ) Q) : tMethS (He.ga X.K c) m (SpG X.K ks n l g) W (teOf X.K κ W fo) (taOf X.K κ W fa) σ H Q := by
  refine ⟨ρ, Wo, rel, (EvG.bind q).imp fun v H1 ⟨d, ρ1, fr, r1, rp, q1⟩ => ?_⟩
  by_cases hi : insOk c m d = true
  · rw [if_pos hi] at q1
    obtain ⟨a, dx, fs, rfl, ha, hf⟩ := rp_ins rp hi
    refine ⟨a, dx, fs, rfl, (hide_some ha).2, hf, ρ1, Wo, r1, (EvG.bind q1).imp fun vs H2 ⟨as, ρ2, fr2, r2, ok, q2⟩ => ?_⟩
    refine call_core ?_ r2 (argsOk_cons (a := .v d) (rp.mono (Ord.fr fr2)) ok) q2
    have h : callD ks n g (.v d :: as) ρ2 ≠ .st := fun z => by rw [z] at q2; exact q2
    have := callD_len h
    rw [List.length_cons, ← (ok.at).1, ← hl, ← this, List.length_cons]
  · rw [if_neg hi] at q1; exact q1.elim
end
theorem ta_nil {Q : List V → Hp → Prop} {σ : L2.St} {H : Hp} (h : taOf X.K κ W gNil σ H Q) : tNil σ H Q := by
  obtain ⟨ρ, Wo, rel, q⟩ := h
  exact q [] H (.refl H) rel rfl
theorem tMethS_nil {Q : VK} {σ : L2.St} {H : Hp} (h : tMethS C m sp W (teOf X.K κ W fo) (taOf X.K κ W gNil) σ H Q) : tMethS C m sp W (teOf X.K κ W fo) tNil σ H Q := by
  obtain ⟨ρ, Wo, rel, q⟩ := h
  exact ⟨ρ, Wo, rel, q.imp fun v H1 ⟨a, dx, fs, e, h1, h2, h3⟩ => ⟨a, dx, fs, e, h1, h2, ta_nil h3⟩⟩
theorem qe_meth0 (c : Str) {pl : Sem Bool} (he : QE X κ W o fo) (cl : Cls X.K (He.ga X.K c)) (hm : Meth X.K (He.ga X.K c) m f) (F : FnQ X.prog X.w X.K X.mg X.base k f fd ps ks n g) (hr : Room k X.A) (hb : Binds X.K fd ps []) (tk : Takes X W) (hl : ks.length = ps.length := by rfl)
    (ht : eval (.Call (.Attribute o m apos) [] [] pos) X.env = (do
      let ov ← eval o X.env
      standAt apos.atName
      let (f, first) ← holding [ov] (getMethod ov m pl)
      callWith pos f first (backTo pos (starEach [] X.env)) (backToKw pos (keywordEach [] X.env))) := by rfl) : QE X κ W (.Call (.Attribute o m apos) [] [] pos) (gMeth c m ks n g fo gNil) :=
  PE.imp (pe_methQ0 he cl hm F hr hb tk ht) fun σ H Q ⟨ρ, Wo, rel, q⟩ => tMethS_nil (methD_core hl rel q)
end
end Qy

set_option Elab.async false
set_option linter.all false
set_option maxRecDepth 100000
/-! Q21: instances made. -/
namespace Qy
open PySem PySem.Spec L2 PyProof.Rows
section
variable {K : Fg} {κ : Kp} {W : WX} {ρ ρ' ρc : Rho} {Wo W' : Addr → Prop} {σ σ' : L2.St} {H H' : Hp} {p : Addr} {o : HO} {d : D}
/-- one slot more, with a new thing -/
theorem Rel.push (r : Rel K κ ρ Wo σ H) (hp : H p = none) (s : Same H H') (e : H' p = some o) (c : Cn K (vw κ (wPlus Wo p) H') d o) : Rel K κ (ρ ++ [.ow none d]) (wPlus Wo p) (σ ++ [some (.ref p)]) H' := by
  have r2 : Rel K κ ρ (wPlus Wo p) σ H' := r.plus hp s e c.nt
  have at' : ∀ {i : Nat} {s : Slot}, (ρ ++ [.ow none d])[i]? = some s → (i < ρ.length ∧ ρ[i]? = some s) ∨ (i = ρ.length ∧ s = .ow none d) := fun {i s} h => by
    rw [List.getElem?_append] at h
    split at h
    · rename_i hi; exact .inl ⟨hi, h⟩
    · rename_i hi
      have : i - ρ.length = 0 := by
        by_cases z : i - ρ.length = 0
        · exact z
        · obtain ⟨m, hm⟩ := Nat.exists_eq_succ_of_ne_zero z
          rw [hm] at h; simp at h
      rw [this] at h
      exact .inr ⟨by omega, by simpa using h.symm⟩
  have lo : ∀ {i : Nat}, i < ρ.length → (σ ++ [some (.ref p)])[i]? = σ[i]? := fun {i} hi => List.getElem?_append_left (by rw [← r.len]; exact hi)
  have hi' : (σ ++ [some (V.ref p)])[ρ.length]? = some (some (.ref p)) := by rw [r.len]; simp
  exact {
    len := by simp [r.len]
    sh := fun i x h => by
      rcases at' h with ⟨hi, h⟩ | ⟨hi, h⟩
      · rw [lo hi]; exact r2.sh i x h
      · cases h
    xc := fun i x h => by
      rcases at' h with ⟨hi, h⟩ | ⟨hi, h⟩
      · rw [lo hi]; exact r2.xc i x h
      · cases h
    ow := fun i t x h => by
      rcases at' h with ⟨hi, h⟩ | ⟨hi, h⟩
      · rw [lo hi]; exact r2.ow i t x h
      · cases h
        subst hi
        exact ⟨p, o, hi', .inr rfl, e, c, fun k z => nomatch z⟩
    dj := fun i j t t' x x' l h1 h2 h3 h4 => by
      have key : ∀ {i : Nat} {t : Option Nat} {x : D}, (ρ ++ [.ow none d])[i]? = some (.ow t x) → (σ ++ [some (.ref p)])[i]? = some (some (V.ref l)) → (i < ρ.length ∧ ρ[i]? = some (.ow t x) ∧ σ[i]? = some (some (V.ref l)) ∧ l ≠ p) ∨ (i = ρ.length ∧ l = p) := fun {i t x} h h' => by
        rcases at' h with ⟨hi, h⟩ | ⟨hi, h⟩
        · rw [lo hi] at h'
          obtain ⟨l', _, e1, w, _⟩ := r.ow i t x h
          rw [h'] at e1; cases e1
          exact .inl ⟨hi, h, h', fun z => r.ht l (.inl w) (by rw [z]; exact hp)⟩
        · rw [hi, hi'] at h'; cases h'
          exact .inr ⟨hi, rfl⟩
      rcases key h1 h3 with ⟨a1, a2, a3, a4⟩ | ⟨a1, a2⟩
      · rcases key h2 h4 with ⟨b1, b2, b3, b4⟩ | ⟨b1, b2⟩
        · exact r.dj i j t t' x x' l a2 b2 a3 b3
        · exact (a4 b2).elim
      · rcases key h2 h4 with ⟨b1, b2, b3, b4⟩ | ⟨b1, b2⟩
        · exact (b4 a2).elim
        · rw [a1, b1]
    bw := fun i x h => by
      rcases at' h with ⟨hi, h⟩ | ⟨hi, h⟩
      · rw [lo hi]; exact r2.bw i x h
      · cases h
    bo := r2.bo
    bd := r2.bd
    bn := r2.bn
    ht := r2.ht
    nx := r2.nx
    tu := r2.tu
    dp := by
      refine r.dp.tr (fun i t x h => ?_) (fun i t x l h h' => ?_) (fun a w _ => ⟨.inl w, fun u z => s _ _ z⟩) (vw_plus r hp s)
      · rcases at' h with ⟨hi, h⟩ | ⟨hi, h⟩
        · exact ⟨h, (lo hi).symm, fun _ _ _ z => z⟩
        · cases h
      · rcases at' h with ⟨hi, h⟩ | ⟨hi, h⟩
        · rw [lo hi] at h'; exact .inl ⟨t, x, h, h'⟩
        · rw [hi, hi'] at h'; cases h'
          exact .inr fun w => r.ht p (.inl w) hp }
/-- one slot less -/
theorem Rel.pop {x : Option V} (r : Rel K κ ρ Wo (σ ++ [x]) H) : Rel K κ (ρ.take σ.length) Wo σ H := by
  have hl : ρ.length = σ.length + 1 := by rw [r.len]; simp
  have at' : ∀ {i : Nat} {s : Slot}, (ρ.take σ.length)[i]? = some s → i < σ.length ∧ ρ[i]? = some s := fun {i s} h => by
    rw [List.getElem?_take] at h
    split at h
    · rename_i hi; exact ⟨hi, h⟩
    · cases h
  have lo : ∀ {i : Nat}, i < σ.length → (σ ++ [x])[i]? = σ[i]? := fun {i} hi => List.getElem?_append_left hi
  exact {
    len := by rw [List.length_take, hl]; omega
    sh := fun i y h => by obtain ⟨hi, h⟩ := at' h; rw [← lo hi]; exact r.sh i y h
    xc := fun i y h => by obtain ⟨hi, h⟩ := at' h; rw [← lo hi]; exact r.xc i y h
    ow := fun i t y h => by obtain ⟨hi, h⟩ := at' h; rw [← lo hi]; exact r.ow i t y h
    dj := fun i j t t' y y' l h1 h2 h3 h4 => by
      obtain ⟨hi, h1⟩ := at' h1
      obtain ⟨hj, h2⟩ := at' h2
      exact r.dj i j t t' y y' l h1 h2 (by rw [lo hi]; exact h3) (by rw [lo hj]; exact h4)
    bw := fun i y h => by obtain ⟨hi, h⟩ := at' h; rw [← lo hi]; exact r.bw i y h
    bo := r.bo
    bd := r.bd
    bn := r.bn
    ht := r.ht
    nx := r.nx
    tu := r.tu
    dp := r.dp.tr (fun i t y h => by obtain ⟨hi, h⟩ := at' h; exact ⟨h, lo hi, fun _ _ _ z => z⟩) (fun i t y l h e => by obtain ⟨hi, h⟩ := at' h; exact .inl ⟨t, y, h, by rw [lo hi]; exact e⟩) (fun a w _ => ⟨w, fun u z => z⟩) (Ord.refl _) }
/-- nobody's slot holds p -/
def NoS (ρ : Rho) (σ : L2.St) (p : Addr) : Prop := ∀ (i : Nat) (t : Option Nat) (d : D), ρ[i]? = some (.ow t d) → σ[i]? ≠ some (some (.ref p))
theorem NoS.popped {t : Option Nat} (r : Rel K κ ρ Wo (σ ++ [some (.ref p)]) H) (h : ρ[σ.length]? = some (.ow t d)) : NoS (ρ.take σ.length) σ p := fun i t' d' h' e => by
  rw [List.getElem?_take] at h'
  split at h'
  · rename_i hi
    have := r.dj i σ.length t' t d' d p h' h (by rw [List.getElem?_append_left hi]; exact e) (by simp)
    omega
  · cases h'
/-- nor does a thing that owns things -/
def NoD (K : Fg) (κ : Kp) (ρ : Rho) (Wo : Addr → Prop) (σ : L2.St) (H : Hp) (p : Addr) : Prop := ∃ Fp, DpOk K κ ρ (wPlus Wo p) σ H Fp ∧ ∀ (i : Nat) (t : Option Nat) (d : D), ρ[i]? = some (.dp t d) → p ∉ Fp i
theorem NoD.popped {t : Option Nat} (r : Rel K κ ρ (wPlus Wo p) (σ ++ [some (.ref p)]) H) (h : ρ[σ.length]? = some (.ow t d)) : NoD K κ (ρ.take σ.length) Wo σ H p := by
  obtain ⟨Fp, h1, h2, h3⟩ := r.dp
  have at' : ∀ {i : Nat} {s : Slot}, (ρ.take σ.length)[i]? = some s → i < σ.length ∧ ρ[i]? = some s := fun {i s} h => by
    rw [List.getElem?_take] at h
    split at h
    · rename_i hi; exact ⟨hi, h⟩
    · cases h
  have lo : ∀ {i : Nat}, i < σ.length → (σ ++ [some (V.ref p)])[i]? = σ[i]? := fun {i} hi => List.getElem?_append_left hi
  refine ⟨Fp, ⟨fun i t' d' e => ?_, fun i j t1 t2 d1 d2 n e1 e2 => h2 i j t1 t2 d1 d2 n (at' e1).2 (at' e2).2, fun i j t1 t2 d1 d2 l e1 e2 e3 => ?_⟩, fun i t1 d1 e1 => ?_⟩
  · obtain ⟨hi, e⟩ := at' e
    obtain ⟨v, q1, q2⟩ := h1 i t' d' e
    exact ⟨v, by rw [← lo hi]; exact q1, q2⟩
  · obtain ⟨hj, e2⟩ := at' e2
    exact h3 i j t1 t2 d1 d2 l (at' e1).2 e2 (by rw [lo hj]; exact e3)
  · exact h3 i σ.length t1 t d1 d p (at' e1).2 h (by simp)
theorem NoD.drop (h : NoD K κ ρ Wo σ H p) (o : Ord (vw κ (wPlus Wo p) H) (vw κ Wo H')) (k : ∀ a u, a ≠ p → H a = some u → H' a = some u) : DpX K κ ρ Wo σ H' := by
  obtain ⟨Fp, ⟨h1, h2, h3⟩, hn⟩ := h
  refine ⟨Fp, fun i t d e => ?_, h2, h3⟩
  obtain ⟨v, q1, q2, q3, q4, q5⟩ := h1 i t d e
  have ne : ∀ a ∈ Fp i, a ≠ p := fun a m z => hn i t d e (by rw [← z]; exact m)
  exact ⟨v, q1, q2.mono o fun a m u => k a u (ne a m), fun a m => (q3 a m).elim id fun z => (ne a m z).elim, q4, q5⟩
theorem Rel.cutS (r : Rel K κ ρ (wPlus Wo p) σ H) (nw : ¬ Wo p) (no : NoS ρ σ p) (nd : NoD K κ ρ Wo σ H p) : Rel K κ ρ Wo σ (cut H p) := by
  have bD : κ.B p = none := r.bn p (.inr rfl)
  have nD : ¬ κ.Xh p := r.nx p (.inr rfl)
  exact {
    len := r.len
    sh := fun i d e => let ⟨v, e1, q⟩ := r.sh i d e; ⟨v, e1, by rw [vw_cut]; exact q⟩
    xc := fun i d e => let ⟨e1, q⟩ := r.xc i d e; ⟨e1, by rw [vw_cut]; exact q⟩
    ow := fun i t d e => by
      obtain ⟨l, u, e1, w, h1, c, k⟩ := r.ow i t d e
      have ne : l ≠ p := fun z => no i t d e (by rw [← z]; exact e1)
      exact ⟨l, u, e1, w.elim id fun w => (ne w).elim, by rw [cut_ne ne]; exact h1, by rw [vw_cut]; exact c, k⟩
    dj := r.dj
    bw := r.bw
    bo := ⟨fun a u n e => by
        have ne : a ≠ p := fun z => by
          rw [z] at e
          rcases e with e | ⟨_, e⟩
          · rw [bD] at e; cases e
          · rw [bD] at e; cases e
        rcases r.bo.r a u n e with e | ⟨od, e⟩
        · exact .inl (by rw [cut_ne ne]; exact e)
        · exact .inr ⟨od, by rw [cut_ne ne]; exact e⟩, fun a u n e => by
        have ne : a ≠ p := fun z => by rw [z, bD] at e; cases e
        rw [cut_ne ne]; exact r.bo.s a u n e⟩
    bd := fun l e => by
      by_cases z : l = p
      · rw [z]; exact bD
      · rw [cut_ne z] at e; exact r.bd l e
    bn := fun l w => r.bn l (.inl w)
    ht := fun l w => by
      have z : l ≠ p := fun z => w.elim (fun w => nw (by rw [← z]; exact w)) fun w => nD (by rw [← z]; exact w)
      rw [cut_ne z]
      exact r.ht l (w.imp .inl id)
    nx := fun l w => r.nx l (.inl w)
    tu := fun l xs w e => r.tu l xs (w.imp .inl id) (cut_same _ _ e)
    dp := nd.drop (by rw [vw_cut]; exact Ord.refl _) fun a u n e => by rw [cut_ne n]; exact e }
theorem vw_lose : Ord (vw κ (wPlus Wo p) H) (vw κ Wo H) := hide_ord (fun a n _ z => n (z.imp .inl id)) fun _ _ _ e => e
/-- nobody owns p any longer -/
theorem Rel.lose (r : Rel K κ ρ (wPlus Wo p) σ H) (no : NoS ρ σ p) (nd : NoD K κ ρ Wo σ H p) : Rel K κ ρ Wo σ H where
  len := r.len
  sh := fun i d e => let ⟨v, e1, q⟩ := r.sh i d e; ⟨v, e1, q.mono vw_lose⟩
  xc := fun i d e => let ⟨e1, q⟩ := r.xc i d e; ⟨e1, q.mono vw_lose⟩
  ow := fun i t d e => by
    obtain ⟨l, u, e1, w, h1, c, k⟩ := r.ow i t d e
    exact ⟨l, u, e1, w.elim id fun w => (no i t d e (by rw [← w]; exact e1)).elim, h1, c.mono vw_lose, k⟩
  dj := r.dj
  bw := r.bw
  bo := r.bo
  bd := r.bd
  bn := fun l w => r.bn l (.inl w)
  ht := fun l w => r.ht l (w.imp .inl id)
  nx := fun l w => r.nx l (.inl w)
  tu := fun l xs w => r.tu l xs (w.imp .inl id)
  dp := nd.drop vw_lose fun a u _ e => e
end
section
variable {X : Cx} {κ : Kp} {W : WX} {k n : Nat} {f C : Addr} {fd : FuncData} {ps : List Str} {ks : List Kd} {g : M Fl} {m c : Str} {x : Str} {p pos apos : Pos} {o e : Expr} {es : List Expr} {fo : M D} {fa : M (List ArgR)} {ta : TE} {t : TA} {sp : Sp}
theorem run_makeQ {CX : CXT} {E : L2.St → XK} {pins : List (Addr × Obj)} {σ : L2.St} {H : Hp} {s : Shared} {Q : VK} {us : List Value} {vs : List V} (M : Mk X.K C f) (F : FnOk X.prog X.w X.K X.mg X.base CX k f fd ps sp) (hr : Room (k + 1) X.A) (hb : Binds X.K fd ps [])
    (hx : PassesAt CX X σ (E σ)) (I : Inv X pins σ H s) (r : Vals vs us)
    (h : ∀ x dx, H x = none → H dx = none → dx ≠ x → sp (.ref x :: vs) (upd (upd H dx (.own x)) x (.ins C dx [])) (fun v H2 => v = .non ∧ Q (.ref x) H2) (E σ)) :
    wpAny (model X.prog X.w) X.A (call (.ref C) us) (EP X pins σ Q) X.xe s := by
  have hq := h (s.heap.objs.size + 1) s.heap.objs.size (I.hok.fresh (Nat.le_succ _)) (I.hok.fresh (Nat.le_refl _)) (Nat.ne_of_lt (Nat.lt_succ_self _))
  have I2 := Inv.made (C := C) I
  have r2 : Vals (V.ref (s.heap.objs.size + 1) :: vs) (Value.ref (s.heap.objs.size + 1) :: us) := .cons rfl r
  have hl : (Value.ref (s.heap.objs.size + 1) :: us).length = ps.length := by
    have e := r2.length
    rw [F.len _ _ _ _ hq] at e
    exact e.symm
  have b := hb _ (Value.ref (s.heap.objs.size + 1) :: us) I2.kIn (by rw [List.append_nil]; exact hl)
  rw [List.append_nil] at b
  refine wpAny_call (make_map (f := f) I.kIn M.makes M.init (beq_iff_eq.mp M.fn) (codeAny_mono (F.run _ X.stack _ _ ⟨Value.ref (s.heap.objs.size + 1) :: us, []⟩ (Value.ref (s.heap.objs.size + 1) :: us) _ _ (E σ) (hr.make C us []) (I2.env0.make C us []) b r2 hq) fun r s' hq' => ?_))
  cases r with
  | error e => exact hx pins _ _ e s' I2 hq'
  | ok fl =>
    cases fl with
    | ret u =>
      obtain ⟨v, H', I3, rv, ev, q3⟩ := I2.after hq'
      subst ev
      exact ⟨rv, ⟨V.ref (s.heap.objs.size + 1), H', I3, rfl, q3⟩⟩
    | next => exact False.elim hq'
    | brk => exact False.elim hq'
    | cont => exact False.elim hq'
def tMakeQ (C : Addr) (sp : Sp) (W : WX) (t : TA) : TE := fun σ H Q => t σ H fun vs H1 => ∀ x dx, H1 x = none → H1 dx = none → dx ≠ x → sp (.ref x :: vs) (upd (upd H1 dx (.own x)) x (.ins C dx [])) (fun v H2 => v = .non ∧ Q (.ref x) H2) (WE W σ)
/-- C(..): a new instance; g: __init__ -/
def makeD (c : Str) (ks : List Kd) (n : Nat) (g : M Fl) (as : List ArgR) : M D := fun ρ => match callD (.io :: ks) n g (.s ρ.length :: as) (ρ ++ [.ow none (.obj c [] [])]) with
  | .ok .non ρ2 => (match ρ2[ρ.length]? with
    | some (.ow none d) => .ok d (ρ2.take ρ.length)
    | _ => .st)
  | .er e ρ2 => (match ρ2[ρ.length]? with
    | some (.ow none _) => .er e (ρ2.take ρ.length)
    | _ => .st)
  | _ => .st
def gMake (c : Str) (ks : List Kd) (n : Nat) (g : M Fl) (fa : M (List ArgR)) : M D := bnd fa (makeD c ks n g)
theorem make_core {ρ : Rho} {Wo : Addr → Prop} {σ : L2.St} {H : Hp} {as : List ArgR} {vs : List V} {l : Nat} {Q : VK} (hl : vs.length + 1 = l) (rel : Rel X.K κ ρ Wo σ H) (ok : ArgsOk X.K σ (vw κ Wo H) as vs) (q : EvF X.K κ W Wo σ H (makeD c ks n g as ρ) Q) {x dx : Addr} (hx : H x = none) (hdx : H dx = none) (ne : dx ≠ x) :
    SpG X.K (.io :: ks) n l g (.ref x :: vs) (upd (upd H dx (.own x)) x (.ins (He.ga X.K c) dx [])) (fun v H2 => v = .non ∧ Q (.ref x) H2) (WE W σ) := by
  have s1 : Same H (upd H dx (.own x)) := Same.new hdx
  have hx1 : upd H dx (.own x) x = none := by rw [upd_ne ne.symm]; exact hx
  have s2 : Same (upd H dx (.own x)) (upd (upd H dx (.own x)) x (.ins (He.ga X.K c) dx [])) := Same.new hx1
  generalize hH2 : upd (upd H dx (.own x)) x (.ins (He.ga X.K c) dx []) = H2 at s2 ⊢
  have e2 : H2 x = some (.ins (He.ga X.K c) dx []) := by rw [← hH2, upd_same]
  have nw : ¬ Wo x := fun z => rel.free hx (.inl z)
  have r2 : Rel X.K κ (ρ ++ [.ow none (.obj c [] [])]) (wPlus Wo x) (σ ++ [some (.ref x)]) H2 := (rel.same s1).push hx1 s2 e2 ⟨rfl, rfl, rps_nil⟩
  have ol : ρ.length = σ.length := rel.len
  have ord : Ord (vw κ Wo H) (vw κ (wPlus Wo x) H2) := hide_ord (fun a n hn z => z.elim (fun z => z.elim (fun z => n (.inl z)) fun z => hn (by rw [z]; exact hx)) fun z => n (.inr z)) fun a u _ e => s2 _ _ (s1 _ _ e)
  have aOk : ∀ {as : List ArgR} {vs : List V}, ArgsOk X.K σ (vw κ Wo H) as vs → ArgsOk X.K (σ ++ [some (.ref x)]) (vw κ (wPlus Wo x) H2) as vs := by
    intro as
    induction as with
    | nil => exact fun h => h
    | cons a as ih =>
      rintro vs ⟨v, r, e, q, z⟩
      refine ⟨v, r, e, ?_, ih z⟩
      cases a with
      | v d => exact Rp.mono ord q
      | s i =>
        have q : σ[i]? = some (some v) := q
        show (σ ++ [some (.ref x)])[i]? = some (some v)
        rw [List.getElem?_append_left (List.getElem?_eq_some_iff.mp q).1]
        exact q
  have slotx : ArgOk X.K (σ ++ [some (.ref x)]) (vw κ (wPlus Wo x) H2) (.s ρ.length) (.ref x) := show (σ ++ [some (V.ref x)])[ρ.length]? = some (some (V.ref x)) by rw [ol]; simp
  refine call_core (W := fun cls dd _ H => W cls dd σ H) (σ := σ ++ [some (.ref x)]) (as := .s ρ.length :: as) (by simpa using hl) r2 (argsOk_cons (a := .s ρ.length) (v := .ref x) slotx (aOk ok)) ?_
  unfold makeD at q
  have frH : ∀ {H3 : Hp}, Fr (wPlus Wo x) H2 H3 → Fr Wo H H3 := fun f b u nb e => f b u (fun z => z.elim nb fun z => by rw [z, hx] at e; cases e) (s2 _ _ (s1 _ _ e))
  cases hc : callD (.io :: ks) n g (.s ρ.length :: as) (ρ ++ [.ow none (.obj c [] [])]) with
  | st => simp only [hc] at q; exact q.elim
  | er e ρ2 =>
    simp only [hc] at q
    intro cls dd H3 f3 r3 x3
    cases h2 : ρ2[ρ.length]? with
    | none => simp only [h2] at q; exact q.elim
    | some s =>
      cases s with
      | ow t d =>
        cases t with
        | none =>
          simp only [h2] at q
          rw [ol] at h2 q
          exact q cls dd H3 (frH f3) (r3.pop.lose (NoS.popped r3 h2) (NoD.popped r3 h2)) (x3.up vw_lose)
        | some _ => simp only [h2] at q; exact q.elim
      | _ => simp only [h2] at q; exact q.elim
  | ok y ρ2 =>
    simp only [hc] at q
    cases y with
    | non =>
      simp only at q
      intro v H3 f3 r3 rp3
      simp only [Rp] at rp3
      refine ⟨rp3, ?_⟩
      cases h2 : ρ2[ρ.length]? with
      | none => simp only [h2] at q; exact q.elim
      | some s =>
        cases s with
        | ow t d =>
          cases t with
          | none =>
            simp only [h2] at q
            rw [ol] at h2 q
            obtain ⟨l', o', e', w', hh, cn, _⟩ := r3.ow σ.length _ _ h2
            have : (σ ++ [some (V.ref x)])[σ.length]? = some (some (.ref x)) := by simp
            rw [this] at e'; cases e'
            refine q x o' (cut H3 x) H3 (fun b u nb e => ?_) (r3.pop.cutS nw (NoS.popped r3 h2) (NoD.popped r3 h2)) cut_at cut_same hh cn
            rw [cut_ne (fun z => by rw [z, hx] at e; cases e)]
            exact frH f3 b u nb e
          | some _ => simp only [h2] at q; exact q.elim
        | _ => simp only [h2] at q; exact q.elim
    | _ => exact q.elim
theorem makeD_len {ρ : Rho} {as : List ArgR} (h : makeD c ks n g as ρ ≠ .st) : as.length = ks.length := by
  unfold makeD at h
  have : callD (.io :: ks) n g (.s ρ.length :: as) (ρ ++ [.ow none (.obj c [] [])]) ≠ .st := fun z => by rw [z] at h; exact h rfl
  have := callD_len this
  simpa using this
end
end Qy

set_option Elab.async false
set_option linter.all false
set_option maxRecDepth 100000
/-! Q22: exceptions of one's own whose __init__ says super().__init__(text) and stores its parameters. -/
namespace Qy
open PySem PySem.Spec PySem.Calls L2 PyProof.Rows
/-- what the written part says of such a class -/
structure ExI (P : Program) (K : Fg) (x qual : Str) (params : Arguments) (body : List Stmt) (scope : Scope) (C f cc cda : Addr) (fd : FuncData) : Prop where
  lk : ∃ oc od kV doc pm an ct osl, fd = PySem.W.ksFn x qual params body scope .none kV doc pm an (.ref cda) ct cc ∧ K.lookup f = some ⟨oc, od, .func fd, osl⟩
  hcd : PySem.W.codeIn K (.ref cda) qual = true
  code : ∃ ccl cdd vs ccs file tf, K.lookup cda = some ⟨ccl, cdd, .fields vs, ccs⟩ ∧ vs[2]? = some (.str file tf) ∧ ((P.main.file : Str) == file) = true
  cell : ∃ cl cld csl, K.lookup cc = some ⟨cl, cld, .cell (some (.ref C)), csl⟩
  sub : PySem.W.mroIn K C (.ref C) = some true
  tp : PySem.W.nsIn K cStatics "thirdparty.any" = some none
  along : PySem.W.ks_superIn K C C "__init__" = some (some (.builtin "ValueError.__init__"))
  isVE : PySem.W.subIn K (.ref C) (.type "ValueError") = some true
  oex : OexC K C
  init : PySem.W.findIn K (.ref C) "__init__" = some (some (.ref f))
  fty : PySem.W.typeIn K (.ref f) = some (.type "function")
  top : (P.main.scope.names.lookup ("super" : Str)).isSome = false
section
variable {P : Program} {w : World} {K : Fg} {mg : Str → Option Value} {base : Heap} {x qual : Str} {params : Arguments} {scope : Scope} {C f cc cda : Addr} {fd : FuncData} {N ps : List Str} {k : Nat} {rest : List Stmt} {p0 p1 p2 p3 p4 p5 : Pos} {j : Nat} {msg : Str} {ar : Arg} {sp : Sp}
abbrev nfE (x qual : Str) (params : Arguments) (body : List Stmt) (scope : Scope) (cc cda : Addr) : NdefX.NF := ⟨x, qual, params, body, scope, [("__class__", cc)], cda⟩
abbrev supS (p0 p1 p2 p3 p4 p5 : Pos) (j : Nat) (msg : Str) : Stmt := .Expr (.Call (.Attribute (.Call (.Name "super" p0) [] [] p1) "__init__" p2) [.Constant (.str msg) j p3] [] p4) p5
theorem exi_ok (F : ExI P K x qual params (supS p0 p1 p2 p3 p4 p5 j msg :: rest) scope C f cc cda fd) (S : NdefX.NScope N ps ["__class__"] scope) (hp : (params.posonlyargs ++ params.args).head? = some ar) (hps : ps[0]? = some ar.arg) (hms : mg "super" = none)
    (he : ∀ env : Env, ∃ pl : Sem Bool, eval (.Call (.Attribute (.Call (.Name "super" p0) [] [] p1) "__init__" p2) [.Constant (.str msg) j p3] [] p4) env = (do
      let ov ← attributeBase (.Call (.Name "super" p0) [] [] p1) "__init__" env (eval (.Call (.Name "super" p0) [] [] p1) env)
      standAt p2.atName
      let (f, first) ← holding [ov] (getMethod ov "__init__" pl)
      callWith p4 f first (backTo p4 (starEach [.Constant (.str msg) j p3] env)) []))
    (hks : scope.names.lookup ("super" : Str) = some .globalImplicit) (hkc : scope.names.lookup ("__class__" : Str) = some .free)
    (len : ∀ vs H Q E, sp vs H Q E → vs.length = ps.length) (h0 : ∀ vs H Q E, sp vs H Q E → ∃ a ws, vs = .ref a :: ws ∧ H a = some (exo a C none))
    (hbody : ∀ (A : Around) (outer : List Env) (s : Shared) (H : Hp) (vs : List V) (Q : VK) (E : XK), sp vs H Q E →
      ∃ t, PSs (NdefX.ncx (L2.CX P w) P w K mg base N (nfE x qual params (supS p0 p1 p2 p3 p4 p5 j msg :: rest) scope cc cda) f A outer s H E) rest t ∧ t { nx := fun _ H' => Q .non H', rt := Q } (NdefX.startF N vs [none]) H) :
    FnOk P w K mg base (L2.CX P w) (k + 1) f fd ps sp := by
  refine ⟨len, fun A outer s H args us vs Q E hr e0 hb r hsp => ?_⟩
  have hl := len _ _ _ _ hsp
  obtain ⟨a, ws, rfl, ha⟩ := h0 _ _ _ _ hsp
  have KX : K.In s.heap := e0.mod.kin.keeps fun b o e => (e0.bs b o e).1
  have lim : s.heap.NoLimit := e0.mod.nolimit.keeps fun b o e => (e0.bs b o e).1
  obtain ⟨oc, od, kV, doc, pm, an, ct, osl, rfl, lk⟩ := F.lk
  obtain ⟨cl, cld, csl, hcell⟩ := F.cell
  obtain ⟨ccl, cdd, vs', ccs, file, tf, hcode, hvs, hfile⟩ := F.code
  obtain ⟨u0, us', rfl⟩ : ∃ u0 us', us = u0 :: us' := by cases r with | cons _ _ => exact ⟨_, _, rfl⟩
  have hu0 : u0 = Value.ref a := by cases r with | cons q _ => exact q
  subst hu0
  have hlu : (Value.ref a :: us').length = ps.length := by rw [← r.length]; exact hl
  obtain ⟨p00, ps', rfl⟩ : ∃ p00 ps', ps = p00 :: ps' := by cases ps with | nil => simp at hps | cons a b => exact ⟨a, b, rfl⟩
  have ep : p00 = ar.arg := by simpa using hps
  refine PySem.ks_codeAny_call_defAt (fd := PySem.W.ksFn x qual params (supS p0 p1 p2 p3 p4 p5 j msg :: rest) scope .none kV doc pm an (.ref cda) ct cc) (body := supS p0 p1 p2 p3 p4 p5 j msg :: rest) (binds := (p00 :: ps').zip (.ref a :: us')) hr.depth (KX _ _ lk) rfl lim (PySem.W.codeRec_of KX F.hcd) rfl hb
    S.nocell (fun y hy => S.par y.1 (List.of_mem_zip hy).1) (fun h₁ hns hk₁ => ?_) S.co S.gen S.kind
  have hbc : ∃ o, base.get? cc = some o := ⟨_, e0.mod.kin _ _ hcell⟩
  have key : ∀ {y : Str} {c : Addr}, List.lookup y [(("__class__" : Str), cc)] = some c → y = ("__class__" : Str) ∧ c = cc := fun {y c} e => by
    by_cases h : y = ("__class__" : Str)
    · subst h
      rw [List.lookup_cons, beq_self_eq_true] at e
      exact ⟨rfl, (Option.some.inj e).symm⟩
    · rw [List.lookup_cons, beq_eq_false_iff_ne.mpr h] at e
      cases e
  have cells : NdefX.CellsAt [("__class__", cc)] ["__class__"] [none] s.heap H := by
    refine ⟨rfl, fun y c e => ?_, fun y z c e1 e2 => (key e1).1.trans (key e2).1.symm, fun i y e => ?_⟩
    · obtain ⟨rfl, rfl⟩ := key e
      obtain ⟨o, ho⟩ := hbc
      exact ⟨(e0.bs _ _ ho).2, _, _, KX _ _ hcell, rfl⟩
    · cases i with
      | zero =>
        have e : ("__class__" : Str) = y := by simpa using e
        subst e
        exact ⟨cc, by rw [List.lookup_cons, beq_self_eq_true], fun v h => by simp at h⟩
      | succ i => simp at e
  have I : Inv (NdefX.ncx (L2.CX P w) P w K mg base N (nfE x qual params (supS p0 p1 p2 p3 p4 p5 j msg :: rest) scope cc cda) f A outer s H E) [] (NdefX.startF N (.ref a :: ws) [none]) H { s with heap := h₁, toks := s.toks + ((p00 :: ps').zip (Value.ref a :: us')).length } :=
    NdefX.inv_startN S hr.hd e0 hl r cells hns hk₁
  obtain ⟨t, ht, hq⟩ := hbody A outer s H _ Q E hsp
  have KX1 : K.In h₁ := KX.keeps hk₁
  have bk : ∀ b o, base.get? b = some o → h₁.get? b = some o := fun b o e => hk₁ _ _ (e0.bs b o e).1
  obtain ⟨mb, hb1, hb2⟩ := e0.mod.blt
  obtain ⟨nm, q, NN, bs, bm, sn, sub, ab, col, dd, k0, k1, k2, k3, k5, hC, hbm⟩ := F.oex.cls
  obtain ⟨t1, hoa⟩ := exo_at e0.hok ha
  have hcl : PySem.W.clsIn K C = some { name := nm, bases := bs, mro := .ref C :: bm, ns := NN, qualname := q, hasDict := true, slotNames := sn, subclasses := sub, abstract := ab, collection := col, hasDel := false } := by unfold PySem.W.clsIn; rw [hC] <;> rfl
  have haC : a ≠ C := fun z => by
    have := (e0.bs _ _ (e0.mod.kin _ _ hC)).2
    rw [← z, ha] at this; cases this
  have ndP : (p00 :: ps').Nodup := by
    have z := S.nd.sublist (List.take_sublist ((p00 :: ps').length + 1) N)
    rw [show (p00 :: ps').length + 1 = (p00 :: ps').length + (["__class__"] : List Str).length from rfl, S.pre] at z
    exact (List.nodup_append.mp z).1
  obtain ⟨pl, he⟩ := he (callEnv (PySem.W.ksFn x qual params (supS p0 p1 p2 p3 p4 p5 j msg :: rest) scope .none kV doc pm an (.ref cda) ct cc) s.heap.objs.size f)
  have hki : (callEnv (PySem.W.ksFn x qual params (supS p0 p1 p2 p3 p4 p5 j msg :: rest) scope .none kV doc pm an (.ref cda) ct cc) s.heap.objs.size f).scope.kind = .function := S.kind
  refine PySem.ks_wpAt_execs_cons (PySem.ks_wpAt_Expr_any (PySem.ks_wpAt_MethodCall (pl := pl) ?_ he) (by unfold interactive; rw [hki]; rfl))
  refine PySem.ks_wpAt_super_base hks hkc (by decide) rfl (hk₁ _ _ (KX _ _ lk)) rfl hp rfl (hk₁ _ _ (KX _ _ hcode)) rfl hvs hfile F.top ?_
  refine PySem.W.ks_loadName_global S.kind hks (Calls.loadGlobal_builtin (e0.mod.glob.keeps bk) hms (hb1.keeps bk) ((hb2 _ (by decide)).trans (show bootBuiltins "super" = some (.type "super") by kernel_rfl)) ⟨rfl, ?_⟩)
  refine PySem.wpAny_loadName_free S.kind hkc (show List.lookup ("__class__" : Str) [(("__class__" : Str), cc)] = some cc by rw [List.lookup_cons, beq_self_eq_true]) ⟨_, hk₁ _ _ (KX _ _ hcell), rfl⟩ ?_
  refine PySem.wpAny_loadName_local S.kind (S.par _ (by rw [← ep]; exact List.mem_cons_self)) hns (NdefX.zip_look (i := 0) ndP (by rw [← ep]; rfl) rfl) ?_
  refine PySem.ks_wpAny_isType_cls (KX1 _ _ hC) rfl ⟨rfl, ?_⟩
  refine PySem.ks_wpAny_call_super (KX1 _ _ hC) rfl (hk₁ _ _ hoa) rfl (fun c e => nomatch e) (PySem.W.looks_mroIn KX1 F.sub) (fun h2 hso k2' => ?_)
  have KX2 : K.In h2 := KX1.keeps k2'
  have hoa2 := k2' _ _ (hk₁ _ _ hoa)
  have LT : ∀ {hh : Heap}, hh.get? a = some { cls := .ref C, data := .fields #[.ref t1, .none, .none, .none, .bool false, .none] } → PySem.W.Looks (model P w) hh (typeOf (.ref a)) (.ref C) := fun e A Q E s k q => PySem.wpAny_typeOf_ref (k _ _ e) q
  refine PySem.W.kxs_getMethod PySem.W.kxs_ValueError hso (PySem.W.looks_opaque KX2 F.tp) (l₀ := .ref C :: bm) (fun A Q E s k q => wpAny_bind ((PySem.W.looks_clsIn KX2 hcl) A _ E s k (wpAny_pure q))) rfl KX2
    (by have z := F.along; unfold PySem.W.ks_superIn at z; rw [hcl] at z; exact z) ((LT hoa2).andThen (PySem.W.looks_subIn KX2 F.isVE)) haC (by decide) ?_
  have Ia : Inv (NdefX.ncx (L2.CX P w) P w K mg base N (nfE x qual params (supS p0 p1 p2 p3 p4 p5 j msg :: rest) scope cc cda) f A outer s H E) [] (NdefX.startF N (.ref a :: ws) [none]) H
      ⟨h2, s.gens, s.drawn, s.toks + ((p00 :: ps').zip (Value.ref a :: us')).length + 1, s.os⟩ := I.kept (h' := h2) k2'
  have I2 : Inv (NdefX.ncx (L2.CX P w) P w K mg base N (nfE x qual params (supS p0 p1 p2 p3 p4 p5 j msg :: rest) scope cc cda) f A outer s H E) [] (NdefX.startF N (.ref a :: ws) [none]) H
      ⟨h2.push (PySem.W.kxs_mw "ValueError.__init__" a), s.gens, s.drawn, s.toks + ((p00 :: ps').zip (Value.ref a :: us')).length + 1, s.os⟩ := Ia.kept (fun b o e => Heap.get?_push_of_some _ e)
  refine PySem.W.kxs_callWith (i := "ValueError.__init__") (x := a) (first := []) (by rfl) ?_
  have hst : starEach [Expr.Constant (.str msg) j p3] (callEnv (PySem.W.ksFn x qual params (supS p0 p1 p2 p3 p4 p5 j msg :: rest) scope .none kV doc pm an (.ref cda) ct cc) s.heap.objs.size f) =
    (false, eval (.Constant (.str msg) j p3) (callEnv (PySem.W.ksFn x qual params (supS p0 p1 p2 p3 p4 p5 j msg :: rest) scope .none kV doc pm an (.ref cda) ct cc) s.heap.objs.size f)) :: starEach [] (callEnv (PySem.W.ksFn x qual params (supS p0 p1 p2 p3 p4 p5 j msg :: rest) scope .none kV doc pm an (.ref cda) ct cc) s.heap.objs.size f) := rfl
  rw [hst]
  refine evalArgs_plain ?_
  show wpAny (model P w) _ (spliced (backTo p4 (starEach [Expr.Constant (.str msg) j p3] (callEnv (PySem.W.ksFn x qual params (supS p0 p1 p2 p3 p4 p5 j msg :: rest) scope .none kV doc pm an (.ref cda) ct cc) s.heap.objs.size f)))) _ _ _
  have pa : PA (NdefX.ncx (L2.CX P w) P w K mg base N (nfE x qual params (supS p0 p1 p2 p3 p4 p5 j msg :: rest) scope cc cda) f A outer s H E) [Expr.Constant (.str msg) j p3] (tCons (tC (.str msg)) tNil) := pa_cons pe_str pa_nil
  have nu : H h2.objs.size = none := Ia.hok.fresh (Nat.le_refl _)
  have fpu : ∀ b ∈ [h2.objs.size], L2.FpOk (NdefX.ncx (L2.CX P w) P w K mg base N (nfE x qual params (supS p0 p1 p2 p3 p4 p5 j msg :: rest) scope cc cda) f A outer s H E) [] H b := fun b hb => by
    have : b = h2.objs.size := by simpa using hb
    rw [this]
    exact Ia.fpOk (Nat.le_refl _) nu
  have gu : (h2.push (PySem.W.kxs_mw "ValueError.__init__" a)).get? h2.objs.size = some (PySem.W.kxs_mw "ValueError.__init__" a) := Heap.get?_push_size h2 rfl
  have I3' := I2.pinned fpu (fun b hb => by
    have : b = h2.objs.size := by simpa using hb
    rw [this]
    exact ⟨_, gu, fun v e => nomatch e⟩)
  refine wpAny_mono (pa.run p4 _ _ (NdefX.startF N (.ref a :: ws) [none]) H (fun vs H1 => vs = [V.str msg] ∧ H = H1) I3' ⟨rfl, rfl⟩) (fun us2 s3 ⟨vs3, H3, I3, r3, e3⟩ => ?_) fun _ _ z => z
  obtain ⟨rfl, rfl⟩ := e3
  have hu3 : s3.heap.get? h2.objs.size = some (PySem.W.kxs_mw "ValueError.__init__" a) := (I3.pin (_, _) (List.mem_append_right _ (List.mem_append_right _ (mem_pinsAt List.mem_cons_self gu)))).1
  have I3 := I3.unpinned
  refine ⟨hu3, ?_⟩
  obtain ⟨t3, ho3⟩ := exo_at I3.hok ha
  have hz3 : us2.length ≤ sizeLine := by
    have := r3.length
    rw [← this, sizeLine_eq]
    show 1 ≤ _
    decide
  have KX3 : K.In s3.heap := I3.kIn
  obtain ⟨hh, gg, dd3, tk, os3⟩ := s3
  refine wpAny_call (codeAny_of_tree ?_)
  show wpAny _ _ (callAny (.ref h2.objs.size) ⟨us2, []⟩) _ _ _
  simp only [callAny]
  refine wpAny_bind (wpAny_load hu3 ?_)
  simp only [PySem.W.kxs_mw, show (Value.type "method-wrapper" == Value.type "method" || Value.type "method-wrapper" == Value.type "builtin_function_or_method" || Value.type "method-wrapper" == Value.type "method-wrapper") = true by decide, if_true]
  refine PySem.W.KFB.if_so (by decide) ?_
  refine wpAny_bind (PySem.W.check_bound_init PySem.F.excBase_ValueError.toExcCallFacts (KX3 _ _ hC) ho3 rfl ?_)
  refine wpAny_bind (wpAny_pure (wpAny_pure ?_))
  refine ⟨plainId_quiet PySem.F.excBase_ValueError.init.plain _, codeAny_builtin PySem.F.excBase_ValueError.initEntry ?_⟩
  refine PySem.W.exc_init_tree (cls := .ref C) (t0 := t3) (dv := none) (c2 := .none) (c3 := .none) (b4 := .bool false) ho3 hz3 fun h' k3 e' t' => ?_
  have J := I3.write (h' := h') (t' := tk) (x := a) (e := a) (o := exo a C none) (by rw [ha]; exact True.intro) (.inl rfl) k3 ⟨_, e'⟩ (exo_ok e')
  have eu : upd H a (exo a C none) = H := by
    funext b
    by_cases hb : b = a
    · rw [hb, upd_same, ha]
    · rw [upd_ne hb]
  rw [eu] at J
  show PySem.wpAt _ _ _ _ _ _ _
  refine PySem.wpAt_of_wpAny ?_
  refine wpAny_mono (ht.run [] _ _ H _ J hq) (fun fl s' hs => ?_) fun e s' hs => hs
  have fin : ∀ {σ' : L2.St} {H' : Hp} {v : V} {u : Value}, Inv (NdefX.ncx (L2.CX P w) P w K mg base N (nfE x qual params (supS p0 p1 p2 p3 p4 p5 j msg :: rest) scope cc cda) f A outer s H E) [] σ' H' s' → L2.RelV v u → Q v H' → CE outer P w H s Q u s' :=
    fun {σ' H' v u} J rv q => ⟨v, H', J.os, J.bare, J.base, J.hok, rv, q⟩
  cases fl with
  | ret u =>
    obtain ⟨v, σ', H', J, rv, q⟩ := hs
    exact fin J rv q
  | next =>
    obtain ⟨σ', H', J, q⟩ := hs
    exact fin (v := V.non) (u := Value.none) J rfl q
  | brk =>
    obtain ⟨_, _, _, q⟩ := hs
    exact False.elim q
  | cont =>
    obtain ⟨_, _, _, q⟩ := hs
    exact False.elim q
end
/-! ### one field, two fields -/
section
variable {P : Program} {w : World} {K : Fg} {mg : Str → Option Value} {base : Heap} {x qual : Str} {params : Arguments} {scope : Scope} {C f cc cda : Addr} {fd : FuncData} {N ps : List Str} {k : Nat} {p0 p1 p2 p3 p4 p5 p6 p7 p8 p9 q6 q7 q8 q9 : Pos} {j : Nat} {msg : Str} {ar : Arg} {a0 a1 a2 f1 f2 : Str}
def SpX1 (C : Addr) (f1 : Str) : Sp := fun vs H Q _ => ∃ a y, vs = [.ref a, y] ∧ H a = some (exo a C none) ∧ ∀ dx, H dx = none → dx ≠ a → Q .non (upd (upd H dx (exd dx [(f1, y)])) a (exo a C (some dx)))
theorem exi1 (F : ExI P K x qual params [supS p0 p1 p2 p3 p4 p5 j msg, .Assign [.Attribute (.Name a0 p6) f1 p7] (.Name a1 p8) p9] scope C f cc cda fd) (S : NdefX.NScope N [a0, a1] ["__class__"] scope) (hp : (params.posonlyargs ++ params.args).head? = some ar) (har : ar.arg = a0) (hms : mg "super" = none)
    (he : ∀ env : Env, ∃ pl : Sem Bool, eval (.Call (.Attribute (.Call (.Name "super" p0) [] [] p1) "__init__" p2) [.Constant (.str msg) j p3] [] p4) env = (do
      let ov ← attributeBase (.Call (.Name "super" p0) [] [] p1) "__init__" env (eval (.Call (.Name "super" p0) [] [] p1) env)
      standAt p2.atName
      let (f, first) ← holding [ov] (getMethod ov "__init__" pl)
      callWith p4 f first (backTo p4 (starEach [.Constant (.str msg) j p3] env)) []))
    (hks : scope.names.lookup ("super" : Str) = some .globalImplicit) (hkc : scope.names.lookup ("__class__" : Str) = some .free) (hn1 : PySem.W.findIn K (.ref C) f1 = some none)
    (d0 : (a0 == ("__debug__" : Str)) = false) (e0 : (a0 == ("__classdict__" : Str)) = false) (d1 : (a1 == ("__debug__" : Str)) = false) (e1 : (a1 == ("__classdict__" : Str)) = false) :
    FnOk P w K mg base (L2.CX P w) (k + 1) f fd [a0, a1] (SpX1 C f1) := by
  subst har
  have pre := S.pre
  have h0 : N[0]? = some ar.arg := by
    have : (N.take 3)[0]? = some ar.arg := by rw [show (3 : Nat) = [ar.arg, a1].length + (["__class__"] : List Str).length from rfl, pre]; rfl
    simpa using this
  have h1 : N[1]? = some a1 := by
    have : (N.take 3)[1]? = some a1 := by rw [show (3 : Nat) = [ar.arg, a1].length + (["__class__"] : List Str).length from rfl, pre]; rfl
    simpa using this
  refine exi_ok F S hp rfl hms he hks hkc (fun vs H Q E ⟨a, y, e, _⟩ => by rw [e]; rfl) (fun vs H Q E ⟨a, y, e, h, _⟩ => ⟨a, _, e, h⟩) fun A outer s H vs Q E ⟨a, y, ev, ha, q⟩ => ?_
  subst ev
  have v0 : Vis scope ar.arg := .inl (S.par _ List.mem_cons_self)
  have v1 : Vis scope a1 := .inl (S.par _ (List.mem_cons_of_mem _ List.mem_cons_self))
  refine ⟨_, pss_one (ps_ost (pe_var (i := 0) h0 v0 d0 e0) (pe_var (i := 1) h1 v1 d1 e1)), ?_⟩
  exact ⟨y, rfl, .ref a, rfl, a, C, rfl, F.oex, hn1, .inl ⟨ha, q⟩⟩
end
/-! ### raise C(e, ..) -/
section
variable {X : Cx} {κ : Kp} {W : WX} {k : Nat} {fd : FuncData} {ps : List Str} {x c : Str} {p pos rpos : Pos} {e e1 : Expr} {es : List Expr} {f g : M D} {f1 f2 : Str} {fI : Addr}
/-- what is raised -/
def gRaise (c : Str) (ns : List Str) (fa : M (List D)) : M Fl := bnd fa fun ds ρ => .er (.obj c ns ds) ρ
def gOne (f : M D) : M (List D) := bnd f fun d => ret [d]
theorem xd_end {H1 : Hp} {a dx : Addr} {u : HO} {H2 : Hp} (ha : H1 a = none) (ne : dx ≠ a) (e : ∀ b, b ≠ a → b ≠ dx → H2 b = H1 b) : upd (del H2 a) dx u = upd H1 dx u := by
  funext b
  by_cases h : b = dx
  · rw [h, upd_same, upd_same]
  · rw [upd_ne h, upd_ne h]
    by_cases z : b = a
    · rw [z, del_same, ha]
    · rw [del_ne z, e b z h]
theorem qs_raise1 (c : Str) (hc : X.calm = true) (tk : Takes X W) (T : OexC X.K (He.ga X.K c)) (iC : PySem.W.findIn X.K (.ref (He.ga X.K c)) "__init__" = some (some (.ref fI))) (tI : PySem.W.typeIn X.K (.ref fI) = some (.type "function"))
    (F1 : FnOk X.prog X.w X.K X.mg X.base (L2.CX X.prog X.w) k fI fd ps (SpX1 (He.ga X.K c) f1)) (hr : Room (k + 1) X.A) (hb : Binds X.K fd ps []) (hm : X.mg x = some (.ref (He.ga X.K c))) (ha : QE X κ W e f) (hg : Gl X x := by rfl)
    (hdb : (x == ("__debug__" : Str)) = false := by decide) (he : starEach [e] X.env = (false, eval e X.env) :: starEach [] X.env := by rfl) (hpl : (backTo pos (starEach [] X.env)).any (·.1) = false := by rfl) :
    QS X κ W (.Raise (some (.Call (.Name x p) [e] [] pos)) none rpos) (gRaise c [f1] (gOne f)) :=
  PS.imp (ps_raise hc tk (pmk_oex T iC tI F1 hr hb (dvs := []) .nil (passes_call tk fun _ _ _ _ h => h.elim) hg hm (pa_cons ha pa_nil he) hdb he hpl)) fun D' σ H ⟨ρ, Wo, rel, q⟩ => by
    have q : EvS X.K κ W Wo H (bnd f (fun d ρ => .er (.obj c [f1] [d]) ρ) ρ) D' := by
      have e : gRaise c [f1] (gOne f) ρ = bnd f (fun d ρ => .er (.obj c [f1] [d]) ρ) ρ := by
        unfold gRaise gOne bnd
        cases f ρ <;> rfl
      rw [e] at q
      exact q
    refine ⟨ρ, Wo, rel, bindS q fun v H1 d ρ1 fr1 rel1 rp q1 => ?_⟩
    refine ⟨Nat.le_of_ble_eq_true rfl, fun a ha => ⟨a, v, rfl, upd_same, fun dx hdx ne => ⟨rfl, dx, [(f1, v)], upd_same, by rw [upd_ne ne, upd_same], by rw [upd_ne ne] at hdx; exact hdx, ?_⟩⟩⟩
    rw [upd_ne ne] at hdx
    rw [xd_end ha ne fun b z h => by rw [upd_ne z, upd_ne h, upd_ne z]]
    have s : Same H1 (upd H1 dx (.xd [(f1, v)])) := Same.new hdx
    exact q1 _ _ σ _ Wo (Post.of (Fr.same s)) (rel1.same s) ⟨rfl, .inr ⟨dx, _, rfl, rel1.new_at hdx upd_same, rfl, rps_cons (rp.mono (Ord.vws s)) rps_nil⟩⟩
end
end Qy

set_option Elab.async false
set_option linter.all false
set_option maxRecDepth 100000
/-! Q23: try, except. -/
namespace Qy
open PySem PySem.Spec PySem.Calls L2 PyProof.Rows
section
variable {K : Fg} {κ : Kp} {W : WX} {ρ ρ' ρc : Rho} {Wo W' : Addr → Prop} {σ σ' : L2.St} {H H' : Hp}
/-- no slot holds the exception -/
def noX (ρ : Rho) : Rho := ρ.map fun s => match s with
  | .xc _ => .no
  | s => s
theorem noX_at {i : Nat} {s : Slot} (h : (noX ρ)[i]? = some s) : s = .no ∨ ρ[i]? = some s := by
  unfold noX at h
  rw [List.getElem?_map] at h
  cases hr : ρ[i]? with
  | none => rw [hr] at h; cases h
  | some t =>
    rw [hr] at h
    cases t <;> first
      | exact .inl (Option.some.inj h).symm
      | exact .inr (by rw [← h]; rfl)
theorem noX_no {i : Nat} {d : D} (h : (noX ρ)[i]? = some (.xc d)) : False := by
  unfold noX at h
  rw [List.getElem?_map] at h
  cases hr : ρ[i]? with
  | none => rw [hr] at h; cases h
  | some t => rw [hr] at h; cases t <;> cases h
theorem Rel.swapX (r : Rel K κ ρ Wo σ H) (a : Addr) (x : Value × Option Addr) : Rel K { κ with xa := a, xd := x } (noX ρ) Wo σ H where
  len := by unfold noX; rw [List.length_map]; exact r.len
  sh := fun i d h => (noX_at h).elim (fun z => nomatch z) fun z => r.sh i d z
  ow := fun i t d h => (noX_at h).elim (fun z => nomatch z) fun z => r.ow i t d z
  dj := fun i j t t' d d' l h1 h2 h3 h4 => (noX_at h1).elim (fun z => nomatch z) fun z1 => (noX_at h2).elim (fun z => nomatch z) fun z2 => r.dj i j t t' d d' l z1 z2 h3 h4
  bw := fun i d h => (noX_at h).elim (fun z => nomatch z) fun z => r.bw i d z
  bo := r.bo
  bd := r.bd
  bn := r.bn
  ht := r.ht
  nx := r.nx
  tu := r.tu
  xc := fun i d h => (noX_no h).elim
  dp := r.dp.tr (fun i t d h => (noX_at h).elim (fun z => nomatch z) fun z => ⟨z, rfl, fun _ _ _ y => y⟩) (fun i t d l h e => (noX_at h).elim (fun z => nomatch z) fun z => .inl ⟨t, d, z, e⟩) (fun a w _ => ⟨w, fun u z => z⟩) (Ord.refl _)
theorem Rel.swapB {a : Addr} {x : Value × Option Addr} (r : Rel K { κ with xa := a, xd := x } ρ Wo σ H) : Rel K κ (noX ρ) Wo σ H := Rel.swapX (κ := { κ with xa := a, xd := x }) r κ.xa κ.xd
/-- the end of a suite -/
def endX (i : Nat) (r : Qy.R Fl) : Qy.R Fl := match r with
  | .ok fl ρ => .ok fl (noX (ρ.set i .no))
  | _ => .st
/-- without a name -/
def endO (r : Qy.R Fl) : Qy.R Fl := match r with
  | .ok fl ρ => .ok fl ρ
  | _ => .st
end
section
variable {X : Cx} {κ : Kp} {W : WX} {x n f : Str} {c : Value} {i : Nat} {body suite : List Stmt} {b₀ : Stmt} {np pos pos' : Pos} {g h : M Fl}
theorem endX_core {K : Fg} {Wo : Addr → Prop} {H : Hp} {D' : Ends} {a : Addr} {x : Value × Option Addr} {r : Qy.R Fl} (q : EvS K κ W Wo H (endX i r) D') :
    EvS K { κ with xa := a, xd := x } WF Wo H r { nx := fun σ' H' => D'.nx (σ'.set i none) H', rt := D'.rt, bk := fun σ' H' => D'.bk (σ'.set i none) H', ct := fun σ' H' => D'.ct (σ'.set i none) H' } := by
  cases r with
  | er e ρ => exact q.elim
  | st => exact q.elim
  | ok fl ρ =>
    intro σ2 H2 W2 p r2
    have r3 : Rel K κ (noX (ρ.set i .no)) W2 (σ2.set i none) H2 := (r2.setNo (i := i) (x := none)).swapB
    have q := q (σ2.set i none) H2 W2 p r3
    cases fl <;> exact q
/-- e.f, e the exception in hand -/
def gXf (c f : Str) (i : Nat) : M D := fun ρ => match ρ[i]? with
  | some (.xc (.obj c' ns ds)) => if c' = c then ofO (getF f ns ds) ρ else .st
  | _ => .st
theorem qe_xf (c : Str) (i : Nat) {a : Addr} {oe : Obj} {cls : Value} {d : Option Addr} {pn : List (Addr × Obj)} {p : Pos} (T : XfC X.K (He.ga X.K c)) (hno : PySem.W.findIn X.K (.ref (He.ga X.K c)) f = some none) (hz : Zc cls d oe) (hf : ∃ vs, oe.data = .fields vs)
    (hN : X.N[i]? = some x := by rfl) (hv : Vis X.env.scope x := by first | exact Or.inl rfl | exact Or.inr (Or.inl rfl) | exact Or.inr (Or.inr rfl)) (hd : (x == ("__debug__" : Str)) = false := by decide)
    (hcd : (x == ("__classdict__" : Str)) = false := by decide) (hb : attributeBase (.Name x p) f X.env (eval (.Name x p) X.env) = eval (.Name x p) X.env := by rfl) : QE (X.suite a ((a, oe) :: pn)) { κ with xa := a, xd := (cls, d) } W (.Attribute (.Name x p) f pos) (gXf c f i) :=
  have pv : PE (X.suite a ((a, oe) :: pn)) (.Name x p) (tVar i) := pe_var hN hv hd hcd
  PE.imp (pe_xf T hno hz hf pv hb) fun σ H Q ⟨ρ, Wo, rel, q⟩ => by
    unfold gXf at q
    cases hr : ρ[i]? with
    | none => rw [hr] at q; exact q.elim
    | some s =>
      rw [hr] at q
      cases s <;> try exact q.elim
      rename_i dd
      cases dd <;> try exact q.elim
      rename_i c' ns ds
      simp only at q
      split at q
      · rename_i hc
        subst hc
        obtain ⟨e1, x1, x2⟩ := rel.xc i _ hr
        cases hg : getF f ns ds with
        | none => rw [hg] at q; exact q.elim
        | some y =>
          rw [hg] at q
          rcases x2 with x2 | ⟨dx, fs, e2, e3, e4, e5⟩
          · subst x2; cases ds <;> cases hg
          · subst e4
            obtain ⟨v, l, rp⟩ := getF_ok e5 hg
            exact ⟨_, e1, rfl, x1, dx, fs, v, e2, (hide_some e3).2, l, q v H (.refl _) rel rp⟩
      · exact q.elim
end
end Qy

set_option Elab.async false
set_option linter.all false
set_option maxRecDepth 100000
/-! Q24: len of an instance. -/
namespace Qy
open PySem PySem.Spec PySem.Calls L2 PyProof.Rows
section
variable {X : Cx} {κ : Kp} {W : WX} {k n : Nat} {f C : Addr} {fd : FuncData} {ps : List Str} {g : M Fl} {c : Str} {p pos : Pos} {e : Expr} {fo : M D}
end
end Qy

set_option Elab.async false
set_option linter.all false
set_option maxRecDepth 100000
/-! Q25: what the printed walks say. -/
namespace Qy
open PySem PySem.Spec PySem.Calls L2 PyProof.Rows
/-- a def that keeps g -/
structure FnP (P : Program) (w : World) (K : Fg) (mg : Str → Option Value) (base : Heap) (k : Nat) (f : Addr) (ps : List Str) (ks : List Kd) (n : Nat) (g : M Fl) : Prop where
  ex : ∃ fd, Binds K fd ps [] ∧ PySem.W.keepIn K (.ref f) = true ∧ FnQ P w K mg base k f fd ps ks n g ∧ ∃ oc od osl, K.lookup f = some ⟨oc, od, .func fd, osl⟩
/-- the law's def: its parameters are bound whatever lies in the heap -/
structure FnPL (P : Program) (w : World) (K : Fg) (mg : Str → Option Value) (base : Heap) (k : Nat) (f : Addr) (ps : List Str) (ks : List Kd) (n : Nat) (g : M Fl) : Prop where
  ex : ∃ fd, Binds [] fd ps [] ∧ PySem.W.keepIn K (.ref f) = true ∧ FnQ P w K mg base k f fd ps ks n g ∧ ∃ oc od osl, K.lookup f = some ⟨oc, od, .func fd, osl⟩
theorem nil_in {h : Heap} : PySem.W.Frag.In [] h := fun _ _ e => nomatch e
theorem binds_any {K : Fg} {fd : FuncData} {ps : List Str} (b : Binds K fd ps []) : Binds K fd ps [] := b
theorem FnPL.fnP {P : Program} {w : World} {K : Fg} {mg : Str → Option Value} {base : Heap} {k n : Nat} {f : Addr} {ps : List Str} {ks : List Kd} {g : M Fl} (F : FnPL P w K mg base k f ps ks n g) : FnP P w K mg base k f ps ks n g :=
  let ⟨fd, b, r⟩ := F.ex; ⟨fd, fun s us _ hl => b s us nil_in hl, r⟩
theorem fnp_ofL {P : Program} {w : World} {K : Fg} {mg : Str → Option Value} {base : Heap} {k n : Nat} {f : Addr} {x qual : Str} {params : Arguments} {body : List Stmt} {scope : Scope} {N ps : List Str} {ks : List Kd} {g : M Fl}
    (F : ∃ fd, FunD K x qual params body scope [] [] f fd) (hs : C8.scC N ps scope = true) (hn : N.length - ps.length = n)
    (hbind : ∀ (kV doc pm : Value) (an : Option Addr) (cdv ct : Value) (us : List Value), us.length = ps.length → bindArgs (PySem.W.fnOf x qual params body scope .none kV doc pm an cdv ct) ⟨us, []⟩ = pure (ps.zip us))
    (hb : ∀ (cd : Value) (A : Around) (outer : List Env) (s : Shared) (H : Hp) (E : XK) (κ : Kp), Room k (A.deeper (envOfC qual scope s.heap.objs.size f cd)) → N.Nodup → QSs (cxB P w K mg base N qual scope f cd A outer s H E) κ (WB E) body g) : FnPL P w K mg base (k + 1) f ps ks n g := by
  obtain ⟨fd, F⟩ := F
  refine ⟨fd, ?_, F.kp, fnq_of F (C8.fnScope_by hs) hn fun cd A outer s H E κ hr => hb cd A outer s H E κ hr (C8.fnScope_by hs).nd, ?_⟩
  · obtain ⟨oc, od, dV, kV, doc, pm, an, cdv, ct, osl, rfl, lk, hcd, hD, _⟩ := F.ex
    rcases hD with ⟨_, e⟩ | ⟨h, _⟩
    · subst e; exact .all (hbind kV doc pm an cdv ct)
    · exact (h rfl).elim
  · obtain ⟨oc, od, dV, kV, doc, pm, an, cdv, ct, osl, e1, lk, _⟩ := F.ex
    exact ⟨oc, od, osl, lk⟩
theorem fnp_of {P : Program} {w : World} {K : Fg} {mg : Str → Option Value} {base : Heap} {k n : Nat} {f : Addr} {x qual : Str} {params : Arguments} {body : List Stmt} {scope : Scope} {N ps : List Str} {ks : List Kd} {g : M Fl}
    (F : ∃ fd, FunD K x qual params body scope [] [] f fd) (hs : C8.scC N ps scope = true) (hn : N.length - ps.length = n)
    (hbind : ∀ (kV doc pm : Value) (an : Option Addr) (cdv ct : Value) (us : List Value), us.length = ps.length → bindArgs (PySem.W.fnOf x qual params body scope .none kV doc pm an cdv ct) ⟨us, []⟩ = pure (ps.zip us))
    (hb : ∀ (cd : Value) (A : Around) (outer : List Env) (s : Shared) (H : Hp) (E : XK) (κ : Kp), Room k (A.deeper (envOfC qual scope s.heap.objs.size f cd)) → N.Nodup → QSs (cxB P w K mg base N qual scope f cd A outer s H E) κ (WB E) body g) : FnP P w K mg base (k + 1) f ps ks n g :=
  (fnp_ofL F hs hn hbind hb).fnP
theorem FnP.mono {P : Program} {w : World} {K : Fg} {mg : Str → Option Value} {base : Heap} {j k : Nat} {f : Addr} {ps : List Str} {ks : List Kd} {n : Nat} {g : M Fl} (F : FnP P w K mg base j f ps ks n g) (h : j ≤ k) : FnP P w K mg base k f ps ks n g :=
  let ⟨fd, a, b, c, d⟩ := F.ex; ⟨fd, a, b, c.mono h, d⟩
section
variable {X : Cx} {κ : Kp} {W : WX} {k n : Nat} {f C fI : Addr} {ps : List Str} {ks : List Kd} {g g2 : M Fl} {x m c : Str} {p pos apos cpos : Pos} {e o : Expr} {es : List Expr} {fa : M (List ArgR)} {fo f1 f2 : M D} {st : Stmt} {sts : List Stmt}
theorem qss_stuck : QSs X κ W sts (stuck : M Fl) := ⟨fun _ _ _ _ _ _ ⟨_, _, _, q⟩ => q.elim⟩
theorem takes_wf : Takes X WF := fun _ _ ⟨_, _, _, _, _, _, _, _, _, _, _, _, _, _, _, _, w⟩ => w.elim
/-- what the first cannot say the second may -/
def alt {α : Type} (a b : M α) : M α := fun ρ => match a ρ with
  | .st => b ρ
  | r => r
theorem PE.or {t1 t2 : TE} (h1 : PE X e t1) (h2 : PE X e t2) : PE X e (fun σ H Q => t1 σ H Q ∨ t2 σ H Q) := ⟨fun p s σ H Q I q => q.elim (h1.run p s σ H Q I) (h2.run p s σ H Q I)⟩
theorem PS.or {t1 t2 : TS} (h1 : PS X st t1) (h2 : PS X st t2) : PS X st (fun σ H Q => t1 σ H Q ∨ t2 σ H Q) := ⟨fun p s σ H Q I q => q.elim (h1.run p s σ H Q I) (h2.run p s σ H Q I)⟩
theorem qe_alt (h1 : QE X κ W e f1) (h2 : QE X κ W e f2) : QE X κ W e (alt f1 f2) := PE.imp (PE.or h1 h2) fun σ H Q ⟨ρ, Wo, rel, q⟩ => by
  unfold alt at q
  cases hf : f1 ρ with
  | st => rw [hf] at q; exact .inr ⟨ρ, Wo, rel, q⟩
  | ok d ρ' => rw [hf] at q; exact .inl ⟨ρ, Wo, rel, by rw [hf]; exact q⟩
  | er d ρ' => rw [hf] at q; exact .inl ⟨ρ, Wo, rel, by rw [hf]; exact q⟩
/-! ### calls -/
theorem qe_callP (F : FnP X.prog X.w X.K X.mg X.base k f ps ks n g) (hr : Room k X.A) (tk : Takes X W) (hm : X.mg x = some (.ref f)) (ha : QA X κ W (e :: es) fa) (hl : ks.length = ps.length := by rfl)
    (hg : Gl X x := by rfl) (hdb : (x == ("__debug__" : Str)) = false := by decide) (he : starEach (e :: es) X.env = (false, eval e X.env) :: starEach es X.env := by rfl) (hpl : (backTo pos (starEach es X.env)).any (·.1) = false := by rfl) :
    QE X κ W (.Call (.Name x p) (e :: es) [] pos) (gCall ks n g fa) := let ⟨_, b, kp, F, _⟩ := F.ex; qe_call F hr tk hm kp (binds_any b) ha hl hg hdb he hpl
theorem qe_methP0 (c : Str) {pl : Sem Bool} (he : QE X κ W o fo) (cl : Cls X.K (He.ga X.K c)) (hm : Meth X.K (He.ga X.K c) m f) (F : FnP X.prog X.w X.K X.mg X.base k f ps ks n g) (hr : Room k X.A) (tk : Takes X W) (hl : ks.length = ps.length := by rfl)
    (ht : eval (.Call (.Attribute o m apos) [] [] pos) X.env = (do
      let ov ← eval o X.env
      standAt apos.atName
      let (f, first) ← holding [ov] (getMethod ov m pl)
      callWith pos f first (backTo pos (starEach [] X.env)) (backToKw pos (keywordEach [] X.env))) := by rfl) : QE X κ W (.Call (.Attribute o m apos) [] [] pos) (gMeth c m ks n g fo gNil) := let ⟨_, b, kp, F, _⟩ := F.ex; qe_meth0 c he cl hm F hr (binds_any b) tk hl ht
/-! ### lists of one's own -/
theorem qs_append (i : Nat) (he : QE X κ W e f1) (hN : X.N[i]? = some x := by rfl) (hv : Vis X.env.scope x := by first | exact Or.inl rfl | exact Or.inr (Or.inl rfl) | exact Or.inr (Or.inr rfl)) (hd : (x == ("__debug__" : Str)) = false := by decide)
    (hcd : (x == ("__classdict__" : Str)) = false := by decide) (hbase : attributeBase (.Name x p) "append" X.env (eval (.Name x p) X.env) = eval (.Name x p) X.env := by rfl)
    (hfew : ((backTo cpos (starEach [e] X.env)).all (fun x => !x.1) && (backToKw cpos (keywordEach [] X.env)).all (fun x => x.1.isSome) && decide ([e].length + ([] : List Keyword).length + (if ([] : List Keyword).isEmpty then 0 else 1) < 30)) = true := by rfl)
    (hline : (apos.endLine == cpos.line) = true := by rfl) (hs : starEach [e] X.env = (false, eval e X.env) :: starEach [] X.env := by rfl) (hplain : (backTo cpos (starEach [] X.env)).any (·.1) = false := by rfl)
    (hsw : swapsWith (.Call (.Attribute (.Name x p) "append" apos) [e] [] cpos) none pos.line X.env = pure false := by rfl) : QS X κ W (.Expr (.Call (.Attribute (.Name x p) "append" apos) [e] [] cpos) pos) (gMutL i appD f1) :=
  qs_mut i mutg_append (pe_bm PySem.F.plainAttrs_list PySem.F.slot_list_append PySem.F.type_list_append mt_append (pe_var hN hv hd hcd) (pa_cons he pa_nil hs) hbase hfew hline hs hplain) hsw
def gFld (c f : Str) (fe : M D) : M D := bnd fe fun d => ofO (fldD c f d)
end
end Qy
namespace Qy
open PySem PySem.Spec PySem.Calls L2 PyProof.Rows
section
variable {X : Cx} {κ : Kp} {W : WX} {K : Fg} {Wo : Addr → Prop} {H : Hp} {st : Stmt} {f : M D}
theorem own_set {i : Nat} {ρ : Rho} {D' : Ends} (q : EvS K κ W Wo H (gSet i f ρ) D') : EvS K κ W Wo H (gOwn i f ρ) D' := by
  have q : EvS K κ W Wo H ((f ρ).bind (gPut i)) D' := q
  show EvS K κ W Wo H ((f ρ).bind (gPutO i)) D'
  cases hf : f ρ with
  | er e ρ1 => rw [hf] at q; exact q
  | st => rw [hf] at q; exact q
  | ok d ρ1 =>
    rw [hf] at q
    have q : EvS K κ W Wo H (.ok .nx (ρ1.set i (.sh d))) D' := q
    intro σ' H' Wo' p r
    by_cases hi : i < ρ1.length
    · have hr : (ρ1.set i (.ow none d))[i]? = some (.ow none d) := set_got hi
      obtain ⟨l, w, r2⟩ := r.frz hr
      rw [List.set_set] at r2
      exact q σ' H' _ ⟨p.fr, fun m z => p.wo m z.1⟩ r2
    · have e1 : ρ1.set i (.ow none d) = ρ1 := List.set_eq_of_length_le (by omega)
      have e2 : ρ1.set i (.sh d) = ρ1 := List.set_eq_of_length_le (by omega)
      rw [e1] at r
      rw [e2] at q
      exact q σ' H' Wo' p r
theorem qs_shOf {i : Nat} (h : QS X κ W st (gOwn i f)) : QS X κ W st (gSet i f) := PS.imp h fun D' σ H ⟨ρ, Wo, rel, q⟩ => ⟨ρ, Wo, rel, own_set q⟩
/-- what an except clause names, class by class -/
def CmOk (K : Fg) (c : Value) (cm : List (Str × Bool)) : Prop := ∀ c' b, cm.lookup c' = some b → PySem.W.exmOne K (.ref (He.ga K c')) c = some b
theorem cm_nil {c : Value} : CmOk K c [] := fun _ _ h => nomatch h
theorem cm_cons {c : Value} {x : Str} {b : Bool} {cm : List (Str × Bool)} (h : PySem.W.exmOne K (.ref (He.ga K x)) c = some b) (t : CmOk K c cm) : CmOk K c ((x, b) :: cm) := fun c' b' e => by
  rw [List.lookup_cons] at e
  by_cases z : c' = x
  · subst z
    rw [beq_self_eq_true] at e
    cases e
    exact h
  · rw [beq_eq_false_iff_ne.mpr z] at e
    exact t c' b' e
end
end Qy

set_option Elab.async false
set_option linter.all false
set_option maxRecDepth 100000
/-! Q26: what the head tells, exceptions among it. -/
namespace Qy
open PySem PySem.Spec PySem.Calls L2 PyProof.Rows
theorem ba {a b : Bool} (h : (a && b) = true) : a = true ∧ b = true := Bool.and_eq_true_iff.mp h
theorem oexB_ok {K : Fg} {C : Addr} (h : oexB K C = true) : OexC K C := by
  obtain ⟨h1, h⟩ := ba h
  obtain ⟨h2, h⟩ := ba h
  obtain ⟨h3, h⟩ := ba h
  obtain ⟨h4, h5⟩ := ba h
  refine ⟨?_, He.eqO_ok h2, of_decide_eq_true h3, of_decide_eq_true h4, h5⟩
  cases q : K.lookup C with
  | none => rw [q] at h1; cases h1
  | some o =>
    obtain ⟨oc, od, dt, osl⟩ := o
    rw [q] at h1
    cases oc <;> try (cases h1; done)
    cases dt <;> try (cases h1; done)
    rename_i t cd
    obtain ⟨e1, g1⟩ := ba (show (decide (t = "type") && (match cd.mro, osl.toList with
      | .ref C' :: bm, [_, _, _, _, some (.builtin n), _] => decide (C' = C) && (decide (n = "ValueError.__new__") && (!cd.hasDel && (cd.hasDict && HandSPX.refsVE bm)))
      | _, _ => false)) = true from h1)
    have e1 := of_decide_eq_true e1
    subst e1
    obtain ⟨nm, bs, mro, ns, qn, hd, sn, sb, ab, col, del⟩ := cd
    clear h1
    dsimp only at g1
    split at g1
    · rename_i C' bm k0 k1 k2 k3 n k5 hs
      obtain ⟨a1, g1⟩ := ba g1
      obtain ⟨a2, g1⟩ := ba g1
      obtain ⟨a3, g1⟩ := ba g1
      obtain ⟨a4, a5⟩ := ba g1
      have a1 := of_decide_eq_true a1
      have a2 := of_decide_eq_true a2
      have a3 : del = false := by simpa using a3
      have a4 : hd = true := a4
      subst a1 a2 a3 a4
      have hs' : osl = #[k0, k1, k2, k3, some (.builtin "ValueError.__new__"), k5] := by
        cases osl; exact congrArg Array.mk hs
      subst hs'
      exact ⟨nm, qn, ns, bs, bm, sn, sb, ab, col, od, k0, k1, k2, k3, k5, rfl, a5⟩
    · cases g1
theorem isNo_ok {v : Value} (h : isNo v = true) : v = .none := by cases v <;> first | rfl | cases h
theorem exd_exi {P : Program} {K : Fg} {d : ExD} (e : exW K d.cn = d.val) (c : d.ok P K = true) : (∃ fd cc cda, ExI P K d.name d.qual d.params d.body d.scope (He.ga K d.cn) (exF K d.cn) cc cda fd) ∧ XfC K (He.ga K d.cn) := by
  obtain ⟨c1, c⟩ := ba c
  obtain ⟨c2, c⟩ := ba c
  obtain ⟨c3, c⟩ := ba c
  obtain ⟨c4, c⟩ := ba c
  obtain ⟨c5, c⟩ := ba c
  obtain ⟨c6, c⟩ := ba c
  obtain ⟨c7, c⟩ := ba c
  obtain ⟨c8, c⟩ := ba c
  obtain ⟨c9, c10⟩ := ba c
  refine ⟨?_, xfB_ok c10⟩
  unfold exW at e
  cases q : K.lookup (exF K d.cn) with
  | none => rw [q] at c1; cases c1
  | some o =>
    obtain ⟨oc, od, dt, osl⟩ := o
    rw [q] at c1 e
    cases dt <;> try (cases c1; done)
    rename_i fd
    obtain ⟨n1, n2, n3, n4, n5, n6, n7, n8, n9, n10, n11, n12, n13, n14, n15⟩ := fd
    have e2 : (some (n1, n2, n3, n4, n5, n6, n7.map (·.1), n15) : ExV) = some (d.name, d.qual, d.params, FuncBody.stmts d.body, d.scope, mainGlobals, ([("__class__" : Str)] : List Str), builtinsNs) := e
    simp only [Option.some.injEq, Prod.mk.injEq] at e2
    obtain ⟨h1, h2, h3, h4, h5, h6, h7, h8⟩ := e2
    subst h1 h2 h3 h4 h5 h6 h8
    dsimp only at c1
    split at c1
    · rename_i z cc cda
      have hz : z = ("__class__" : Str) := by simpa using h7
      subst hz
      obtain ⟨k1, c1⟩ := ba c1
      obtain ⟨k2, c1⟩ := ba c1
      obtain ⟨k3, k4⟩ := ba c1
      have k4 := isNo_ok k4
      have k4 : n8 = .none := k4
      subst k4
      refine ⟨_, cc, cda, ⟨⟨oc, od, n9, n10, n11, n12, n14, osl, rfl, q⟩, k1, ?_, ?_, of_decide_eq_true c2, He.eqO_ok c3, He.eqO_ok c4, of_decide_eq_true c5, oexB_ok c6, He.eqO_ok c7, of_decide_eq_true c8, by simpa using c9⟩⟩
      · unfold codeB at k2
        cases q2 : K.lookup cda with
        | none => rw [q2] at k2; cases k2
        | some o2 =>
          obtain ⟨a1, a2, a3, a4⟩ := o2
          rw [q2] at k2
          cases a3 <;> try (cases k2; done)
          rename_i vs
          simp only at k2
          split at k2
          · rename_i file tf hv
            exact ⟨a1, a2, vs, a4, file, tf, rfl, hv, k2⟩
          · cases k2
      · unfold cellB at k3
        cases q2 : K.lookup cc with
        | none => rw [q2] at k3; cases k3
        | some o2 =>
          obtain ⟨a1, a2, a3, a4⟩ := o2
          rw [q2] at k3
          cases a3 <;> try (cases k3; done)
          rename_i v
          cases v <;> try (cases k3; done)
          rename_i v
          cases v <;> try (cases k3; done)
          rename_i D
          have k3 : decide (D = He.ga K d.cn) = true := k3
          have k3 := of_decide_eq_true k3
          subst k3
          exact ⟨a1, a2, a4, rfl⟩
    · cases c1
section
variable {P : Program} {fa : List He.Fa} {fn : List He.DefD} {ex : List ExD} {K : Fg}
theorem SaysQ.b1 (c : SaysQ P fa fn ex K) : (fa.all fun f => f.ok K) = true ∧ (fn.all fun d => d.ok K) = true := ba (show ((fa.all fun f => f.ok K) && fn.all fun d => d.ok K) = true from congrArg (fun z : AlQ => z.1.1) c)
theorem SaysQ.fact (c : SaysQ P fa fn ex K) (i : Nat) {f : He.Fa} (h : fa[i]? = some f := by rfl) : f.ok K = true := List.all_eq_true.mp c.b1.1 f (List.mem_of_getElem? h)
theorem SaysQ.def_ (c : SaysQ P fa fn ex K) (i : Nat) {d : He.DefD} (h : fn[i]? = some d := by rfl) : ∃ fd, FunD K d.name d.qual d.params d.body d.scope (d.dvs K) (d.kws K) (He.fAd K d.at_) fd := by
  have e : fn.map (fun d => He.fnW K d.at_) = fn.map He.DefD.val := congrArg (fun z : AlQ => z.2.1) c
  have e2 : (fn.map fun d => He.fnW K d.at_)[i]? = (fn.map He.DefD.val)[i]? := by rw [e]
  rw [List.getElem?_map, List.getElem?_map, h] at e2
  exact He.DefD.funD (Option.some.inj e2) (List.all_eq_true.mp c.b1.2 d (List.mem_of_getElem? h))
theorem SaysQ.exc (c : SaysQ P fa fn ex K) (i : Nat) {d : ExD} (h : ex[i]? = some d := by rfl) : (∃ fd cc cda, ExI P K d.name d.qual d.params d.body d.scope (He.ga K d.cn) (exF K d.cn) cc cda fd) ∧ XfC K (He.ga K d.cn) := by
  have c2 : (ex.all fun d => d.ok P K) = true := congrArg (fun z : AlQ => z.1.2) c
  have e : ex.map (fun d => exW K d.cn) = ex.map ExD.val := congrArg (fun z : AlQ => z.2.2) c
  have e2 : (ex.map fun d => exW K d.cn)[i]? = (ex.map ExD.val)[i]? := by rw [e]
  rw [List.getElem?_map, List.getElem?_map, h] at e2
  exact exd_exi (Option.some.inj e2) (List.all_eq_true.mp c2 d (List.mem_of_getElem? h))
end
/-! ### an exception that may be raised -/
structure ExP1 (P : Program) (w : World) (K : Fg) (mg : Str → Option Value) (base : Heap) (k : Nat) (c f1 : Str) : Prop where
  ex : ∃ fd ps, OexC K (He.ga K c) ∧ PySem.W.findIn K (.ref (He.ga K c)) "__init__" = some (some (.ref (exF K c))) ∧ PySem.W.typeIn K (.ref (exF K c)) = some (.type "function") ∧ Binds K fd ps [] ∧ FnOk P w K mg base (L2.CX P w) k (exF K c) fd ps (SpX1 (He.ga K c) f1)
section
variable {X : Cx} {κ : Kp} {W : WX} {k : Nat} {x c : Str} {p pos rpos : Pos} {e e1 : Expr} {f g : M D} {f1 f2 : Str}
theorem qs_raiseP1 (hc : X.calm = true) (tk : Takes X W) (F : ExP1 X.prog X.w X.K X.mg X.base k c f1) (hr : Room (k + 1) X.A) (hm : X.mg x = some (.ref (He.ga X.K c))) (ha : QE X κ W e f) (hg : Gl X x := by rfl)
    (hdb : (x == ("__debug__" : Str)) = false := by decide) (he : starEach [e] X.env = (false, eval e X.env) :: starEach [] X.env := by rfl) (hpl : (backTo pos (starEach [] X.env)).any (·.1) = false := by rfl) :
    QS X κ W (.Raise (some (.Call (.Name x p) [e] [] pos)) none rpos) (gRaise c [f1] (gOne f)) := let ⟨_, _, a, b, d, bb, F⟩ := F.ex; qs_raise1 c hc tk a b d F hr bb hm ha hg hdb he hpl
end
end Qy

set_option Elab.async false
set_option linter.all false
set_option maxRecDepth 100000
/-! Q27: tuple(x), list(x), x a list of one's own; the law itself. -/
namespace Qy
open PySem PySem.Spec PySem.Calls L2 PyProof.Rows
section
variable {X : Cx} {κ : Kp} {W : WX} {x : Str} {p px pos : Pos}
end
section
variable {X : Cx} {κ : Kp} {W : WX} {a b : Expr} {pos : Pos} {f1 f2 : M D}
/-- a + b, two lists -/
def addL : D → D → Option D
  | .lst xs, .lst ys => if xs.length + ys.length ≤ 16777216 then some (.lst (xs ++ ys)) else none
  | _, _ => none
theorem qf_addL (ha : QE X κ W a f1) (hb : QE X κ W b f2) : QF X κ W (.BinOp a .Add b pos) (gBin addL f1 f2) :=
  PE.imp (pe_op op_cat ha hb) fun σ H Q ⟨ρ, Wo, rel, q⟩ => ⟨ρ, Wo, rel, (EvG.bindF q).imp fun v H1 ⟨x, ρ1, fr1, rel1, rx, q1⟩ => ⟨ρ1, Wo, rel1, (EvG.bindF q1).imp fun u H2 ⟨y, ρ2, fr2, rel2, ry, q2⟩ => by
    have rx := rx.mono (Ord.fr fr2)
    cases x with
    | lst xs =>
      cases y with
      | lst ys =>
        simp only [Rp] at rx ry
        obtain ⟨p, vs, rfl, hp, rs⟩ := rx
        obtain ⟨q, ws, rfl, hq, rt⟩ := ry
        by_cases hl : xs.length + ys.length ≤ 16777216
        · rw [show addL (.lst xs) (.lst ys) = some (.lst (xs ++ ys)) from if_pos hl] at q2
          exact ⟨p, q, vs, ws, rfl, rfl, (hide_some hp).2, (hide_some hq).2, by rw [← rs.length, ← rt.length]; exact hl, fun n hn => tf_new rel2 q2 hn fun o => (rs.append rt).mono o⟩
        · rw [show addL (.lst xs) (.lst ys) = none from if_neg hl] at q2
          exact q2.elim
      | _ => exact q2.elim
    | _ => cases y <;> exact q2.elim⟩⟩
end
/-! ### the law -/
theorem law_rel {K : Fg} {H : Hp} {a : Addr} {ns : List Int} {n : Nat} (h : SqL K H a (ns.map V.int)) : Rel K ⟨fun _ => False, fun _ => none, [], 0, (.none, none)⟩ (rho0 [.sh] [.scr ns] n) (fun _ => False) ([V.ref a].map some ++ List.replicate n none) H := by
  have at' : ∀ {i : Nat} {s : Slot}, (rho0 [.sh] [.scr ns] n)[i]? = some s → s = .no ∨ (i = 0 ∧ s = .sh (.scr ns)) := fun {i s} e => by
    rcases rho0_at (ks := [.sh]) (ds := [.scr ns]) rfl e with e | ⟨hi, k, d, h1, h2, h3⟩
    · exact .inl e
    · have : i = 0 := by simpa using hi
      subst this
      simp at h1 h2
      subst h1 h2
      exact .inr ⟨rfl, h3⟩
  have ev : vw ⟨fun _ => False, fun _ => none, [], 0, (.none, none)⟩ (fun _ => False) H = H := by
    funext b
    exact hide_out fun z => z.elim id id
  exact {
    len := by simp [rho0, rho1]
    sh := fun i d e => by
      rcases at' e with e | ⟨rfl, e⟩
      · cases e
      · cases e
        refine ⟨.ref a, rfl, ?_⟩
        rw [ev]
        simp only [Rp]
        exact ⟨a, rfl, h⟩
    ow := fun i t d e => by rcases at' e with e | ⟨_, e⟩ <;> cases e
    dj := fun i j t t' d d' l e => by rcases at' e with e | ⟨_, e⟩ <;> cases e
    bw := fun i d e => by rcases at' e with e | ⟨_, e⟩ <;> cases e
    bo := by
      refine ⟨fun a u n e => ?_, fun a u n e => nomatch e⟩
      rcases e with e | ⟨_, e⟩
      · cases e
      · cases e
    bd := fun _ _ => rfl
    bn := fun _ _ => rfl
    ht := fun l w => (w.elim id id).elim
    nx := fun l w => w.elim
    tu := fun l xs w => (w.elim id id).elim
    xc := fun i d e => by rcases at' e with e | ⟨_, e⟩ <;> cases e
    dp := DpX.none fun i t d e => by rcases at' e with e | ⟨_, e⟩ <;> cases e }
/-- what the law must answer -/
def Good (n : Nat) (g : M Fl) (ns : List Int) : Prop := ∃ ρ, g (rho0 [.sh] [.scr ns] n) = .ok (.rt (.bl true)) ρ
theorem law_sp {K : Fg} {H : Hp} {a : Addr} {ns : List Int} {n : Nat} {g : M Fl} (h : SqL K H a (ns.map V.int)) (q : Good n g ns) : SpG K [.sh] n 1 g [.ref a] H (fun v _ => v = .bl true) (fun _ _ _ => False) := by
  refine ⟨rfl, _, _, _, law_rel h, ?_⟩
  obtain ⟨ρ, e⟩ := q
  rw [e]
  intro σ' H' W' p r v rp
  simp only [Rp] at rp
  exact rp
/-- what the printed walks lean on -/
structure Md (K : Fg) (mg : Str → Option Value) (base : Heap) : Prop where
  kin : K.In base
  glob : base.Ns mainGlobals mg
/-- an exception that left, in some world -/
def CXw (P : Program) : CXT := fun outer H s E e s' => ∃ w, L2.CX P w outer H s E e s'
theorem cx_none {P : Program} (H : Hp) (s : Shared) (e : Value) (s' : Shared) (h : CXw P [] H s (fun _ _ _ => False) e s') : False := by
  obtain ⟨_, _, _, _, _, _, _, _, _, _, _, _, _, h⟩ := h
  exact h
theorem fn_cx {P : Program} {w : World} {K : Fg} {mg : Str → Option Value} {base : Heap} {k : Nat} {f : Addr} {fd : FuncData} {ps : List Str} {sp : Sp} (F : FnOk P w K mg base (L2.CX P w) k f fd ps sp) : FnOk P w K mg base (CXw P) k f fd ps sp :=
  ⟨F.len, fun A outer s H args us vs Q E hr he hb hv hs => codeAny_mono (F.run A outer s H args us vs Q E hr he hb hv hs) fun r s' q => by
    cases r with
    | error e => exact ⟨w, q⟩
    | ok fl => cases fl <;> exact q⟩
/-- what the law's end asks -/
theorem law_end {P : Program} {w : World} {K : Fg} {mg : Str → Option Value} {h : Heap} {f : Addr} {x : Str} {k n : Nat} {g : M Fl} (KX : K.In h) (G : h.Ns mainGlobals mg) (F : ∀ base, Md K mg base → FnPL P w K mg base k f [x] [.sh] n g) (q : ∀ ns : List Int, ns.length ≤ 63 → Good n g ns) :
    ∃ (fd : FuncData) (sp : Sp), (∀ (s : Shared) (u : Value), BindsTo s fd ⟨[u], []⟩ [(x, u)]) ∧ (∀ (H : Hp) (a : Addr) (ns : List Int), ns.length ≤ 63 → SqL K H a (ns.map V.int) → sp [.ref a] H (fun v _ => v = .bl true) fun _ _ _ => False) ∧
      ∀ base : Heap, K.In base → base.Ns mainGlobals mg → FnOk P w K mg base (CXw P) k f fd [x] sp := by
  obtain ⟨fd, b, _, _, oc, od, osl, lk⟩ := (F h ⟨KX, G⟩).ex
  refine ⟨fd, SpG K [.sh] n 1 g, fun s u => ?_, fun H a ns hl hs => law_sp hs (q ns hl), fun base kb gb => ?_⟩
  · have := b s [u] nil_in rfl
    simpa using this
  · obtain ⟨fd', b', _, Fn, oc', od', osl', lk'⟩ := (F base ⟨kb, gb⟩).ex
    rw [lk] at lk'
    cases lk'
    exact fn_cx Fn
end Qy

set_option Elab.async false
set_option linter.all false
set_option maxRecDepth 100000
/-! Q28: in, ==, != of instances by own methods. -/
namespace Qy
open PySem PySem.Spec PySem.Calls L2 PyProof.Rows
/-! ### object.__ne__ -/
section
variable {M : Model} {prog : Program} {w : World} {A : Around} {E : Value → Shared → Prop} {s : Shared} {K : Fg} {x C L f : Addr} {ox : Obj} {od : Option Obj} {h₀ : Heap} {m : Str → Option Value} {b tb : Value}
end
/-! ### facts of a class -/
section
variable {X : Cx} {κ : Kp} {W : WX} {k n : Nat} {f C : Addr} {fd : FuncData} {ps : List Str} {g : M Fl} {c : Str} {p pos : Pos} {a b e : Expr} {fa fb : M D} {ta tb : TE} {sp : Sp} {op : CmpOp}
end
end Qy

set_option Elab.async false
set_option linter.all false
set_option maxRecDepth 100000
/-! Q29: in, ==, != of instances: the rules. -/
namespace Qy
open PySem PySem.Spec PySem.Calls L2 PyProof.Rows
section
variable {X : Cx} {κ : Kp} {W : WX} {k n : Nat} {f C : Addr} {fd : FuncData} {ps : List Str} {g : M Fl} {c : Str} {p pos : Pos} {a b e : Expr} {fa fb : M D} {ta tb : TE} {sp : Sp} {op : CmpOp}
theorem PT.or {t1 t2 : TT} (h1 : PT X e t1) (h2 : PT X e t2) : PT X e (fun σ H Q => t1 σ H Q ∨ t2 σ H Q) := ⟨fun p s σ H Q I q => q.elim (h1.run p s σ H Q I) (h2.run p s σ H Q I)⟩
end
section
variable {X : Cx} {κ : Kp} {W : WX} {k n : Nat} {f : Addr} {ps : List Str} {g : M Fl} {p pos : Pos} {a b e : Expr} {fa fb : M D}
end
end Qy

set_option Elab.async false
set_option linter.all false
set_option maxRecDepth 100000
/-! Q30: a, b = e; more facts of the head. -/
namespace Qy
open PySem PySem.Spec PySem.Calls L2 PyProof.Rows
section
variable {X : Cx} {κ : Kp} {W : WX} {e tg : Expr} {pos : Pos} {fe : M D} {gt : D → M Unit}
end
section
variable {P : Program} {fa : List He.Fa} {fn : List He.DefD} {ex : List ExD} {fb : List Fb} {K : Fg}
theorem SaysR.q (c : SaysR P fa fn ex fb K) : SaysQ P fa fn ex K := congrArg Prod.fst c
theorem SaysR.fact (c : SaysR P fa fn ex fb K) (i : Nat) {f : He.Fa} (h : fa[i]? = some f := by rfl) : f.ok K = true := c.q.fact i h
theorem SaysR.def_ (c : SaysR P fa fn ex fb K) (i : Nat) {d : He.DefD} (h : fn[i]? = some d := by rfl) : ∃ fd, FunD K d.name d.qual d.params d.body d.scope (d.dvs K) (d.kws K) (He.fAd K d.at_) fd := c.q.def_ i h
theorem SaysR.exc (c : SaysR P fa fn ex fb K) (i : Nat) {d : ExD} (h : ex[i]? = some d := by rfl) : (∃ fd cc cda, ExI P K d.name d.qual d.params d.body d.scope (He.ga K d.cn) (exF K d.cn) cc cda fd) ∧ XfC K (He.ga K d.cn) := c.q.exc i h
theorem SaysR.more (c : SaysR P fa fn ex fb K) (i : Nat) {f : Fb} (h : fb[i]? = some f := by rfl) : f.ok K = true := by
  have e : (fb.all fun f => f.ok K) = true := congrArg Prod.snd c
  exact List.all_eq_true.mp e f (List.mem_of_getElem? h)
end
end Qy

set_option Elab.async false
set_option linter.all false
set_option maxRecDepth 100000
/-! Q31: several except clauses, with and without names. -/
namespace Qy
open PySem PySem.Spec PySem.Calls L2 PyProof.Rows
/-- a clause: its class, the slot of its name, its suite -/
abbrev Cl1 : Type := Value × Option Nat × (Addr → Value → Option Addr → TS)
def goneD (D : Ends) : Option Nat → Ends
  | none => D
  | some i => { nx := fun τ h => D.nx (τ.set i none) h, rt := D.rt, bk := fun τ h => D.bk (τ.set i none) h, ct := fun τ h => D.ct (τ.set i none) h }
def heldS (σ : L2.St) (a : Addr) : Option Nat → L2.St
  | none => σ
  | some i => σ.set i (some (.ref a))
/-- what the clauses wish -/
def wClauses (K : Fg) (Wz : WX) (D : Ends) : List Cl1 → WX
  | [] => Wz
  | (c, io, ts) :: r => fun cl dd τ h => ∃ b, PySem.W.exmOne K cl c = some b ∧ (b = true → ∀ a, h a = none → ts a cl dd (goneD D io) (heldS τ a io) h) ∧ (b = false → wClauses K Wz D r cl dd τ h)
inductive ClOk (X : Cx) : List ExceptHandler → List Cl1 → Prop
  | nil : ClOk X [] []
  | one {x : Str} {c : Value} {ts : Addr → Value → Option Addr → TS} {b1 : Stmt} {su : List Stmt} {np ps : Pos} {hl : List ExceptHandler} {l : List Cl1} (nm : Names X x c)
      (ok : ∀ (a : Addr) (ob : Obj) (cl : Value) (dd : Option Addr) (pn : List (Addr × Obj)), Zc cl dd ob → (∃ us, ob.data = .fields us) → PSs (X.suite a ((a, ob) :: pn)) (b1 :: su) (ts a cl dd)) (r : ClOk X hl l) :
      ClOk X (.ExceptHandler (some (.Name x np)) none (b1 :: su) ps :: hl) ((c, none, ts) :: l)
  | named {x n : Str} {i : Nat} {c : Value} {ts : Addr → Value → Option Addr → TS} {b1 : Stmt} {su : List Stmt} {np ps : Pos} {hl : List ExceptHandler} {l : List Cl1} (nm : Names X x c) (hi : X.N[i]? = some n) (kl : X.env.kindOf n = some .local)
      (ok : ∀ (a : Addr) (ob : Obj) (cl : Value) (dd : Option Addr) (pn : List (Addr × Obj)), Zc cl dd ob → (∃ us, ob.data = .fields us) → PSs (X.suite a ((a, ob) :: pn)) (b1 :: su) (ts a cl dd)) (r : ClOk X hl l) :
      ClOk X (.ExceptHandler (some (.Name x np)) (some n) (b1 :: su) ps :: hl) ((c, some i, ts) :: l)
section
variable {X : Cx} {bd : List Stmt} {h1 : ExceptHandler} {hl : List ExceptHandler} {l : List Cl1} {pos : Pos} {tb : WX → TS} {Wz : WX}
theorem ps_clauses (st : X.stack = X.env :: X.outer) (fm : X.env.frame = some X.env.locals) (nd : X.N.Nodup) (tk : Takes X Wz)
    (hb : ∀ (W : WX) (pn : List (Addr × Obj)) (xe : Value → Shared → Prop), Takes (X.tr pn xe) W → PassesOwn (model X.prog X.w) X.A X.env xe → PSs (X.tr pn xe) bd (tb W))
    (hc : ClOk X (h1 :: hl) l) : PS X (.Try bd (h1 :: hl) [] [] pos) (fun D σ H => tb (wClauses X.K Wz D l) D σ H) := by
  refine ⟨fun pins s σ H D Iv hw => ?_⟩
  have okk := Iv.ok
  have frk : X.A.frames = some (X.env :: X.outer) := by rw [okk.frames, st]
  refine wpAny_Try_except (wpAny_mono ((hb (wClauses X.K Wz D l) (X.pn ++ pins) (fun e t1 => wpAny (model X.prog X.w) X.A (noteFrame e X.env) (fun _ t2 => wpAny (model X.prog X.w) X.A (setFlight e none) (fun _ t3 =>
    wpAny (model X.prog X.w) X.A (handleBy e X.env (h1 :: hl)) (SP X pins D) X.xe t3) X.xe t2) X.xe t1) (fun u sz xx => ?_) PassesOwn.looking).run [] s σ H D (Iv.toTry _) hw) (fun f t1 he => ?_) (fun e t1 z => z))
  · obtain ⟨a, B, sI, pz, τ, Hz, cl, dd, rfl, Jz, nb, up, sk, na, os, ag, w⟩ := xx
    have Jv : Inv X pins τ Hz sI := Jz.ofTry okk
    have skq : Sky B (X.env :: X.outer) a (Zc cl dd) X.env.locals sz.heap := by rw [← st]; exact sk
    show wpAny (model X.prog X.w) X.A (noteFrame (.ref a) X.env) _ _ _
    refine Sky.land Zc.steady frk fm skq fun hp3 fy3 up3 => ?_
    have Jv3 : Inv X pins τ Hz { sz with heap := hp3 } := Jv.landed nb fy3.1 (up.trans up3) os ag
    obtain ⟨ob3, us3, at3, zc3, fd3⟩ := fy3.there
    have notIn : ∀ {hh : Heap} {o : Obj} {us : Array Value}, hh.FunFrames B (X.env :: X.outer) → hh.get? a = some o → o.data = .fields us → a ∉ frs (X.env :: X.outer) := fun {hh o us} ff e dz hm => by
      obtain ⟨_, o2, e2, nf⟩ := ff.mem hm
      rw [e] at e2; cases e2; exact nf _ dz
    have nfr := notIn fy3.2.2.1 at3 fd3
    have nLc : a ≠ X.env.locals := fun z => nfr (List.mem_filterMap.mpr ⟨X.env, List.mem_cons_self, by rw [fm, z]⟩)
    have nFs : a ∉ X.fs := fun hm => by
      obtain ⟨e, hz, q⟩ := List.mem_filterMap.mp hm
      exact nfr (List.mem_filterMap.mpr ⟨e, List.mem_cons_of_mem _ hz, q⟩)
    have Sv3 := Jv3.suite at3 fd3 na nLc nFs
    have LTy : PySem.W.Looks (model X.prog X.w) hp3 (typeOf (.ref a)) cl := fun A Q E s k q => wpAny_typeOf_ref (k _ _ at3) (by rw [zc3.1]; exact q)
    have named : ∀ {x : Str} {np : Pos} {c : Value}, Names X x c → ∀ {Q : Value → Shared → Prop} {E : Value → Shared → Prop}, Q c { sz with heap := hp3 } → wpAny (model X.prog X.w) (X.A.mark (some (.ref a))) (eval (.Name x np) X.env) Q E { sz with heap := hp3 } := fun {x np c} nm {Q E} q => by
      obtain ⟨hg, hdb, hm | ⟨hm, hv, hnn⟩⟩ := nm
      · exact ld_glob (X := X.suite a ((a, ob3) :: (X.pn ++ pins))) Sv3 hg hm q hdb
      · exact ld_blt (X := X.suite a ((a, ob3) :: (X.pn ++ pins))) Sv3 hg hm hv q hnn hdb
    have go : ∀ {hs2 : List ExceptHandler} {l2 : List Cl1}, ClOk X hs2 l2 → wClauses X.K Wz D l2 cl dd τ Hz → wpAny (model X.prog X.w) X.A (handleBy (.ref a) X.env hs2) (SP X pins D) X.xe { sz with heap := hp3 } := by
      intro hs2 l2 hk
      induction hk with
      | nil =>
        intro w
        refine wpAny_handleBy_nil ?_
        obtain ⟨k1, k2, k3, ob, us, T, oT, tz, at_, zc, fd, q1, qr⟩ := id fy3
        unfold PySem.passOn
        refine wpAny_bind (wpAny_field at_ fd q1 ?_)
        rw [if_neg (show ¬ ((Value.ref T == Value.none) = true) from by simp)]
        have last : wpAny (model X.prog X.w) X.A (setFlight (.ref a) X.env.frame) (fun _ t4 => wpAny (model X.prog X.w) X.A (throw (.ref a) : Sem Flow) (SP X pins D) X.xe t4) X.xe { sz with heap := hp3 } := by
          rw [fm]
          refine HandSPX.setFlight_upZ fy3 fun h4 g4 up4 => wpAny_throw (tk _ _ ?_)
          exact ⟨a, B, sI, pins, τ, Hz, cl, dd, rfl, Jv, nb, (up.trans up3).trans up4, .inr (.inr (by rw [st]; exact g4)), na, os, ag, w⟩
        first
          | exact wpAny_bind (wpAny_pure (wpAny_bind last))
          | exact wpAny_bind last
      | @one x c ts b1 su np ps hs3 l3 nm ok r ih =>
        intro w
        obtain ⟨b, eb, yes, no⟩ := w
        refine wpAny_handleBy_cons (codeAny_handlers_test ?_) (by intro q; cases q)
        refine named nm ((PySem.W.exm_one (M := model X.prog X.w) Jv3.kIn LTy eb).here ?_)
        cases b with
        | true =>
          refine codeAny_handlers_suite ?_
          refine HandSPX.lands_againZ fy3 fun h4 fy4 up4 => ?_
          have Jv4 : Inv X pins τ Hz { sz with heap := h4 } := Jv.landed nb fy4.1 ((up.trans up3).trans up4) os ag
          obtain ⟨ob4, us4, at4, zc4, fd4⟩ := fy4.there
          refine wpAny_mono ((ok a ob4 cl dd (X.pn ++ pins) zc4 ⟨_, fd4⟩).run [] _ _ Hz _ (Jv4.suite at4 fd4 na nLc nFs) (yes rfl a na)) (fun f t6 z => ?_) (fun _ _ z => False.elim z)
          cases f with
          | ret u => obtain ⟨v6, τ6, H6, S6, r6, q6⟩ := z; exact ⟨_, _, _, S6.unsuite okk, r6, q6⟩
          | next => obtain ⟨τ6, H6, S6, q6⟩ := z; exact ⟨_, _, S6.unsuite okk, q6⟩
          | brk => obtain ⟨τ6, H6, S6, q6⟩ := z; exact ⟨_, _, S6.unsuite okk, q6⟩
          | cont => obtain ⟨τ6, H6, S6, q6⟩ := z; exact ⟨_, _, S6.unsuite okk, q6⟩
        | false =>
          show wpAny _ X.A (handleBy (.ref a) X.env hs3) _ _ _
          exact ih (no rfl)
      | @named x n i c ts b1 su np ps hs3 l3 nm hi kl ok r ih =>
        intro w
        obtain ⟨b, eb, yes, no⟩ := w
        refine wpAny_handleBy_cons (codeAny_handlers_test ?_) (by intro q; cases q)
        refine named nm ((PySem.W.exm_one (M := model X.prog X.w) Jv3.kIn LTy eb).here ?_)
        cases b with
        | true =>
          refine codeAny_handlers_suite_as ?_
          refine HandSPX.lands_againZ fy3 fun h4 fy4 up4 => ?_
          have Jv4 : Inv X pins τ Hz { sz with heap := h4 } := Jv.landed nb fy4.1 ((up.trans up3).trans up4) os ag
          obtain ⟨ob4, us4, at4, zc4, fd4⟩ := fy4.there
          refine store_ok (X := X.suite a ((a, ob4) :: (X.pn ++ pins))) (v := .ref a) (Jv4.suite at4 fd4 na nLc nFs) nd hi (.inl kl) rfl (fun t5 S5 => ?_) (.inr kl)
          refine wpAny_mono ((ok a ob4 cl dd (X.pn ++ pins) zc4 ⟨_, fd4⟩).run [] t5 _ Hz _ S5 (yes rfl a na)) (fun f t6 z => ?_) (fun _ _ z => False.elim z)
          have endn : ∀ {τ6 : L2.St} {H6 : Hp} {Q : Shared → Prop}, Inv (X.suite a ((a, ob4) :: (X.pn ++ pins))) [] τ6 H6 t6 → (∀ t7, Inv X pins (τ6.set i none) H6 t7 → Q t7) →
              wpAny (model X.prog X.w) X.A (do bindName X.env n .none; unbindBehindTheSuite X.env n ps) (fun _ t7 => Q t7) X.xe t6 := fun S6 hq => gone_ok (S6.unsuite okk) nd hi kl hq
          cases f with
          | ret u => obtain ⟨v6, τ6, H6, S6, r6, q6⟩ := z; exact endn S6 fun t7 J7 => ⟨_, _, _, J7, r6, q6⟩
          | next => obtain ⟨τ6, H6, S6, q6⟩ := z; exact endn S6 fun t7 J7 => ⟨_, _, J7, q6⟩
          | brk => obtain ⟨τ6, H6, S6, q6⟩ := z; exact endn S6 fun t7 J7 => ⟨_, _, J7, q6⟩
          | cont => obtain ⟨τ6, H6, S6, q6⟩ := z; exact endn S6 fun t7 J7 => ⟨_, _, J7, q6⟩
        | false =>
          show wpAny _ X.A (handleBy (.ref a) X.env hs3) _ _ _
          exact ih (no rfl)
    exact go hc w
  · cases f with
    | ret u => obtain ⟨v, τ, Hz, Jz, r, q⟩ := he; exact ⟨v, τ, Hz, Jz.ofTry okk, r, q⟩
    | next => obtain ⟨τ, Hz, Jz, q⟩ := he; exact wpAny_execs_nil ⟨τ, Hz, Jz.ofTry okk, q⟩
    | brk => obtain ⟨τ, Hz, Jz, q⟩ := he; exact ⟨τ, Hz, Jz.ofTry okk, q⟩
    | cont => obtain ⟨τ, Hz, Jz, q⟩ := he; exact ⟨τ, Hz, Jz.ofTry okk, q⟩
end
end Qy

set_option Elab.async false
set_option linter.all false
set_option maxRecDepth 100000
/-! Q32: try with several clauses: the rule. -/
namespace Qy
open PySem PySem.Spec PySem.Calls L2 PyProof.Rows
/-- a clause: what its class takes, the slot of its name, its suite -/
abbrev Cl : Type := List (Str × Bool) × Option Nat × M Fl
def hdl : List Cl → Str → List Str → List D → M Fl
  | [], c, ns, ds => fun ρ => .er (.obj c ns ds) ρ
  | (cm, io, h) :: r, c, ns, ds => fun ρ => match cm.lookup c with
    | some true => (match io with
      | some i => endX i (h ((noX ρ).set i (.xc (.obj c ns ds))))
      | none => endO (h ρ))
    | some false => hdl r c ns ds ρ
    | none => .st
def gTryM (cs : List Cl) (g : M Fl) : M Fl := fun ρ => match g ρ with
  | .er (.obj c ns ds) ρ' => hdl cs c ns ds ρ'
  | .er _ _ => .st
  | r => r
/-- the clauses of a text -/
inductive Cls2 (X : Cx) (κ : Kp) : List ExceptHandler → List Cl → List Cl1 → Prop
  | nil : Cls2 X κ [] [] []
  | one {x : Str} {c : Value} {h : M Fl} {b1 : Stmt} {su : List Stmt} {np ps : Pos} {hl : List ExceptHandler} {l : List Cl} {l1 : List Cl1} {cm : List (Str × Bool)} (nm : Names X x c) (hcm : CmOk X.K c cm)
      (ok : ∀ (a : Addr) (ob : Obj) (pn : List (Addr × Obj)), QSs (X.suite a ((a, ob) :: pn)) κ WF (b1 :: su) h) (r : Cls2 X κ hl l l1) :
      Cls2 X κ (.ExceptHandler (some (.Name x np)) none (b1 :: su) ps :: hl) ((cm, none, h) :: l) ((c, none, fun _ _ _ => tsOf X.K κ WF h) :: l1)
  | named {x n : Str} {i : Nat} {c : Value} {h : M Fl} {b1 : Stmt} {su : List Stmt} {np ps : Pos} {hl : List ExceptHandler} {l : List Cl} {l1 : List Cl1} {cm : List (Str × Bool)} (nm : Names X x c) (hcm : CmOk X.K c cm) (hi : X.N[i]? = some n) (kl : X.env.kindOf n = some .local)
      (ok : ∀ (a : Addr) (ob : Obj) (cl : Value) (dd : Option Addr) (pn : List (Addr × Obj)), Zc cl dd ob → (∃ us, ob.data = .fields us) → QSs (X.suite a ((a, ob) :: pn)) { κ with xa := a, xd := (cl, dd) } WF (b1 :: su) h) (r : Cls2 X κ hl l l1) :
      Cls2 X κ (.ExceptHandler (some (.Name x np)) (some n) (b1 :: su) ps :: hl) ((cm, some i, h) :: l) ((c, some i, fun a cl dd => tsOf X.K { κ with xa := a, xd := (cl, dd) } WF h) :: l1)
section
variable {X : Cx} {κ : Kp} {W : WX} {bd : List Stmt} {h1 : ExceptHandler} {hl : List ExceptHandler} {cs : List Cl} {l1 : List Cl1} {pos : Pos} {g : M Fl}
theorem Cls2.ok {hs : List ExceptHandler} (h : Cls2 X κ hs cs l1) : ClOk X hs l1 := by
  induction h with
  | nil => exact .nil
  | one nm _ ok r ih => exact .one nm (fun a ob cl dd pn _ _ => ok a ob pn) ih
  | named nm _ hi kl ok r ih => exact .named nm hi kl (fun a ob cl dd pn z f => ok a ob cl dd pn z f) ih
theorem cls_core {hs : List ExceptHandler} (h : Cls2 X κ hs cs l1) {Wo W' : Addr → Prop} {σ' : L2.St} {H H' : Hp} {D' : Ends} {ρ' : Rho} {c' : Str} {ns : List Str} {ds : List D} {cls : Value} {dd : Option Addr} (p : Post Wo H W' H') (r' : Rel X.K κ ρ' W' σ' H')
    (x' : Xp X.K (vw κ W' H') H' (.obj c' ns ds) cls dd) (q : EvS X.K κ W Wo H (hdl cs c' ns ds ρ') D') : wClauses X.K W D' l1 cls dd σ' H' := by
  induction h with
  | nil => exact q cls dd σ' H' W' p r' x'
  | @one x c h b1 su np ps hl l l1 cm nm hcm ok r ih =>
    unfold hdl at q
    cases hlk : cm.lookup c' with
    | none => rw [hlk] at q; exact q.elim
    | some b =>
      rw [hlk] at q
      refine ⟨b, ?_, fun e a ha => ?_, fun e => ?_⟩
      · rw [show cls = .ref (He.ga X.K c') from x'.1]; exact hcm c' b hlk
      · subst e
        refine ⟨_, W', r', ?_⟩
        have q : EvS X.K κ W Wo H (endO (h ρ')) D' := q
        have q := EvS.post p q
        cases hh : h ρ' with
        | ok fl ρ2 => rw [hh] at q; exact q
        | er e ρ2 => rw [hh] at q; exact q.elim
        | st => rw [hh] at q; exact q.elim
      · subst e; exact ih q
  | @named x n i c h b1 su np ps hl l l1 cm nm hcm hi kl ok r ih =>
    unfold hdl at q
    cases hlk : cm.lookup c' with
    | none => rw [hlk] at q; exact q.elim
    | some b =>
      rw [hlk] at q
      refine ⟨b, ?_, fun e a ha => ?_, fun e => ?_⟩
      · rw [show cls = .ref (He.ga X.K c') from x'.1]; exact hcm c' b hlk
      · subst e
        have q : EvS X.K κ W Wo H (endX i (h ((noX ρ').set i (.xc (.obj c' ns ds))))) D' := q
        exact ⟨_, W', (r'.swapX a (cls, dd)).setX x', endX_core (EvS.post p q)⟩
      · subst e; exact ih q
theorem qs_tryM (st : X.stack = X.env :: X.outer) (fm : X.env.frame = some X.env.locals) (nd : X.N.Nodup) (tk : Takes X W) (hc : Cls2 X κ (h1 :: hl) cs l1)
    (hb : ∀ (W : WX) (pn : List (Addr × Obj)) (xe : Value → Shared → Prop), Takes (X.tr pn xe) W → PassesOwn (model X.prog X.w) X.A X.env xe → QSs (X.tr pn xe) κ W bd g) :
    QS X κ W (.Try bd (h1 :: hl) [] [] pos) (gTryM cs g) :=
  PS.imp (ps_clauses st fm nd tk (tb := fun W => tsOf X.K κ W g) hb hc.ok) fun D' σ H ⟨ρ, Wo, rel, q⟩ => by
    refine ⟨ρ, Wo, rel, ?_⟩
    unfold gTryM at q
    cases hg : g ρ with
    | ok fl ρ' => simp only [hg] at q; exact q
    | st => simp only [hg] at q; exact q.elim
    | er e ρ' =>
      simp only [hg] at q
      cases e <;> try exact q.elim
      rename_i c' ns ds
      simp only at q
      intro cls dd σ' H' W' p r' x'
      exact cls_core hc p r' x' q
end
/-! ### xs[::-1] -/
section
variable {X : Cx} {κ : Kp} {W : WX} {e : Expr} {f : M D} {k : Nat} {p1 p2 p3 pos : Pos}
def revD : D → Option D
  | .lst ds => some (.lst ds.reverse)
  | _ => none
end
end Qy

set_option Elab.async false
set_option linter.all false
set_option maxRecDepth 100000
/-! Q33: a new list changed and dropped; pop, clear; while. -/
namespace Qy
open PySem PySem.Spec PySem.Calls L2 PyProof.Rows
section
variable {K : Fg} {κ : Kp} {ρ : Rho} {Wo : Addr → Prop} {σ : L2.St} {H H' : Hp} {D : Addr} {o : HO}
end
section
variable {X : Cx} {κ : Kp} {W : WX} {i : Nat} {x name : Str} {ident : String} {e y : Expr} {fe fy : M D} {h : List D → D → Option (List D)} {r : V → List V → Hp → VK → Prop} {p pos cpos apos : Pos}
end
end Qy

set_option Elab.async false
set_option linter.all false
set_option maxRecDepth 100000
/-! Q34: == of dicts with tuple keys whose values are all one. -/
namespace Qy
open PySem PySem.Spec PySem.Calls L2 PyProof.Rows
section
variable {prog : Program} {w : World} {K : Type} [DecidableEq K] {knd : HeapKind prog w K} {A : Around} {E : Value → Shared → Prop} {s : Shared}
end
end Qy

set_option Elab.async false
set_option linter.all false
set_option maxRecDepth 100000
/-! Q35: == of such dicts as rules; isinstance of an own class. -/
namespace Qy
open PySem PySem.Spec PySem.Calls L2 PyProof.Rows
section
variable {prog : Program} {w : World} {K : Type} [DecidableEq K] {knd : HeapKind prog w K} {A : Around} {E : Value → Shared → Prop} {s : Shared}
end
section
variable {X : Cx}
end
/-! ### isinstance(x, C) -/
section
variable {X : Cx} {κ : Kp} {W : WX} {a : Expr} {f : M D} {p pos p2 : Pos}
end
end Qy

set_option Elab.async false
set_option linter.all false
set_option maxRecDepth 100000
/-! Q36: xs.remove(y), xs.index(y) over data. -/
namespace Qy
open PySem PySem.Spec PySem.Calls L2 PyProof.Rows
section
variable {X : Cx}
end
section
variable {X : Cx} {κ : Kp} {W : WX} {x : Str} {e c : Expr} {fe fc : M D} {p pos cpos apos : Pos}
end
end Qy

set_option Elab.async false
set_option linter.all false
set_option maxRecDepth 100000
/-! Q37: dict(d), a copy of a dict whose keys are names. -/
namespace Qy
open PySem PySem.Spec PySem.Calls L2 PyProof.Rows
section
variable {X : Cx} {κ : Kp} {W : WX} {a : Expr} {f : M D} {p pos : Pos}
end
end Qy

set_option Elab.async false
set_option linter.all false
set_option maxRecDepth 100000
/-! Q38: == of dicts whose keys are names. -/
namespace Qy
open PySem PySem.Spec PySem.Calls PySem.W L2 PyProof.Rows
/-- each of the first is in the second, with an equal value -/
def hitsD (ls : List Key) (es : List D) : List Key → List D → Bool
  | k :: ks, d :: ds => match getD' ls es k with
    | some e => deq d e && hitsD ls es ks ds
    | none => false
  | _, _ => true
section
variable {X : Cx} {pins : List (Addr × Obj)} {σ : L2.St} {H : Hp} {s : Shared}
theorem okP_get {κ : Type} [DecidableEq κ] {k : κ} {e : D} : ∀ {ls : List κ} {es : List D}, es.all okP = true → getD' ls es k = some e → okP e = true
  | [], _, _, h => by simp [getD'] at h
  | _ :: _, [], _, h => by simp [getD'] at h
  | l :: ls, x :: es, o, h => by
    simp only [List.all_cons, Bool.and_eq_true] at o
    simp only [getD'] at h
    split at h
    · cases h; exact o.1
    · exact okP_get o.2 h
theorem hits_run (I : Inv X pins σ H s) (hu : X.A.units + 65 < cLine) {lvs : List (Key × V)} {ys : List (Key × Value)} {es : List D} (kl : KV lvs ys) (rl : Rps X.K H es (lvs.map (·.2))) (oe : es.all okP = true) {kvs : List (Key × V)} {xs : List (Key × Value)} (r : KV kvs xs) :
    ∀ {ds : List D}, Rps X.K H ds (kvs.map (·.2)) → ds.all okP = true → KeqHits X.A.in1 s ys xs (hitsD (lvs.map (·.1)) es (kvs.map (·.1)) ds) := by
  unfold KV at r
  induction r with
  | nil =>
    intro ds h o
    cases ds <;> exact KeqHits.nil
  | @cons p q ps qs h t ih =>
    intro ds hr o
    obtain ⟨h1, h2⟩ := h
    cases ds with
    | nil => simp only [List.map_cons, Rps] at hr; cases hr
    | cons d ds =>
      simp only [List.map_cons, Rps] at hr
      obtain ⟨v, r', e0, rd, rds⟩ := hr
      injection e0 with e1 e2
      subst e1; subst e2
      simp only [List.all_cons, Bool.and_eq_true] at o
      have ih := ih rds o.2
      obtain ⟨k, v⟩ := p
      obtain ⟨k', u⟩ := q
      simp only at h1 h2 rd
      subst h1
      have val := kl.val k
      show KeqHits X.A.in1 s ys ((k, u) :: qs) (match getD' (lvs.map (·.1)) es k with
        | some e => deq d e && hitsD (lvs.map (·.1)) es (ps.map (·.1)) ds
        | none => false)
      rcases getD_ok k rl with ⟨e, w, g1, g2, re⟩ | ⟨g1, g2⟩
      · rw [g1]
        rw [g2] at val
        cases hy : valueAt ys k with
        | none => rw [hy] at val; exact val.elim
        | some y =>
          rw [hy] at val
          have oe' := okP_get oe g1
          obtain ⟨as, ra⟩ := Dp.reads I (toP d) v u (dp_of o.1 rd) h2
          obtain ⟨bs, rb⟩ := Dp.reads I (toP e) w y (dp_of oe' re) val
          exact .hit hy (keq_at ra rb o.1 oe' (by show X.A.units + 1 + 64 < cLine; omega)) ih
      · rw [g1]
        rw [g2] at val
        cases hy : valueAt ys k with
        | none => exact .miss hy
        | some y => rw [hy] at val; exact val.elim
def rEqDk (K : Fg) (z : Bool) : R2 := fun x y H Q => ∃ (a b : Addr) (kvs lvs : List (Key × V)) (ds es : List D), x = .ref a ∧ y = .ref b ∧ Rd H a (.dK kvs) ∧ Rd H b (.dK lvs) ∧ Rps K H ds (kvs.map (·.2)) ∧ Rps K H es (lvs.map (·.2)) ∧ ds.all okP = true ∧ es.all okP = true ∧
  Q (.bl (xor z (kvs.length == lvs.length && hitsD (lvs.map (·.1)) es (kvs.map (·.1)) ds))) H
theorem op_neDk (hu : X.A.units + 65 < cLine) : OpR X (compareOp .NotEq) (rEqDk X.K true) := by
  intro pins s σ H x y v u Q I rx ry h
  obtain ⟨a, b, kvs, lvs, ds, es, rfl, rfl, ra, rb, r1, r2, o1, o2, q⟩ := h
  obtain rfl : v = Value.ref a := rx
  obtain rfl : u = Value.ref b := ry
  obtain ⟨_, na, xs, kx, dx⟩ := dk_rd I.hok ra
  obtain ⟨_, nb, ys, ky, dy⟩ := dk_rd I.hok rb
  refine keq_ne na nb dx dy (by omega) (fun _ => hits_run I hu ky r2 o2 kx r1 o1) ⟨.bl _, H, I, rfl, ?_⟩
  rw [← kx.length, ← ky.length]
  simpa using q
def eqDk (z : Bool) (x y : D) : Option Bool := match x, y with
  | .dk ks ds, .dk ls es => if (ds.all okP && es.all okP) = true then some (xor z (ks.length == ls.length && hitsD ls es ks ds)) else none
  | _, _ => none
theorem cmg_dk (z : Bool) : CmG X (rEqDk X.K z) (eqDk z) := fun S H x y c v u Q rx ry e q => by
  cases x <;> try (cases e; done)
  cases y <;> try (cases e; done)
  rename_i ks xs ls ys
  have e : (if (xs.all okP && ys.all okP) = true then some (xor z (ks.length == ls.length && hitsD ls ys ks xs)) else none) = some c := e
  split at e
  · rename_i ht
    rw [Bool.and_eq_true] at ht
    cases e
    simp only [Rp] at rx ry
    obtain ⟨a, kvs, rfl, ra, rfl, r1⟩ := rx
    obtain ⟨b, lvs, rfl, rb, rfl, r2⟩ := ry
    exact ⟨a, b, kvs, lvs, xs, ys, rfl, rfl, ra, rb, r1, r2, ht.1, ht.2, by simpa using q⟩
  · cases e
/-- one way or the other -/
def orC (g1 g2 : D → D → Option Bool) (x y : D) : Option Bool := (g1 x y).or (g2 x y)
def orR (r1 r2 : R2) : R2 := fun x y H Q => r1 x y H Q ∨ r2 x y H Q
theorem op_or {op : Value → Value → Sem Value} {r1 r2 : R2} (h1 : OpR X op r1) (h2 : OpR X op r2) : OpR X op (orR r1 r2) := by
  intro pins s σ H x y v u Q I rx ry h
  rcases h with h | h
  · exact h1 pins s σ H x y v u Q I rx ry h
  · exact h2 pins s σ H x y v u Q I rx ry h
theorem cmg_or {r1 r2 : R2} {g1 g2 : D → D → Option Bool} (h1 : CmG X r1 g1) (h2 : CmG X r2 g2) : CmG X (orR r1 r2) (orC g1 g2) := fun S H x y c v u Q rx ry e q => by
  unfold orC at e
  cases z : g1 x y with
  | some b =>
    rw [z] at e
    cases e
    exact .inl (h1 S H x y _ v u Q rx ry z q)
  | none =>
    rw [z] at e
    exact .inr (h2 S H x y _ v u Q rx ry e q)
end
end Qy

set_option Elab.async false
set_option linter.all false
set_option maxRecDepth 100000
/-! Q39: while. -/
namespace Qy
open PySem PySem.Spec PySem.Calls L2 PyProof.Rows
/-- so many turns at most -/
def wh (t : M Bool) (body : M Fl) : Nat → M Fl
  | 0 => stuck
  | n + 1 => fun ρ => match t ρ with
    | .ok b ρ1 => if b = true then (match body ρ1 with
      | .ok .nx ρ2 => wh t body n ρ2
      | .ok .ct ρ2 => wh t body n ρ2
      | .ok .bk ρ2 => .ok .nx ρ2
      | r => r) else .ok .nx ρ1
    | .er e ρ1 => .er e ρ1
    | .st => .st
section
variable {X : Cx} {κ : Kp} {W : WX} {pos : Pos} {c : Expr} {body : List Stmt}
end
end Qy

set_option Elab.async false
set_option linter.all false
set_option maxRecDepth 100000
/-! Q40: == and != of equal nested data (lists and dicts of lists and dicts). -/
namespace Qy
open PySem PySem.Spec PySem.Calls L2 PyProof.Rows
end Qy
namespace PySem.SeqAt
open AutoSeq1 (wpAny_loadPart')
open MeetsSeq MeetsSeq2 MeetsSeq3 SeqRoads2
section
variable {pr : Program} {wo : World}
/-- the rows of one list, the other's -/
abbrev LsAt (s : Shared) (l : Addr) (xs : Array Value) (n : Nat) (d : Option Addr) (sl : Array (Option Value)) : Prop := s.heap.get? l = some { cls := .type "list", dict := d, data := .seq xs n, slots := sl }
theorem qy_neLoop (l m : Addr) (xs ys : Array Value) (n n' : Nat) (d d' : Option Addr) (sl sl' : Array (Option Value)) (same : xs.size = ys.size) (e : Nat → Bool) (k : Nat) :
    ∀ i : Nat, xs.size - i = k → MeetsIn pr wo (Builtin.«list.__eq__.loop» ⟨[.ref l, .ref m, rawInt i, rawInt 3], []⟩)
      (fun A R s => LsAt s l xs n d sl ∧ LsAt s m ys n' d' sl' ∧ (∀ j (h1 : j < xs.size) (h2 : j < ys.size), EqP pr wo A.in1 s xs[j] ys[j] (e j)) ∧ R (.ok (.ret (.bool (!((List.range xs.size).drop i).all e)))) s) := by
  induction k with
  | zero =>
    intro i hk A R s hh
    obtain ⟨hp, g, dd, tk, os⟩ := s
    obtain ⟨o1, o2, each, last⟩ := hh
    unfold LsAt at o1 o2
    wp_walk using wpAny_loadPart' o1, wpAny_loadPart' o2
    have n1 : xs[((i : Nat) : Int).toNat]? = none := by simp; omega
    have n2 : ys[((i : Nat) : Int).toNat]? = none := by simp; omega
    have no : (List.range xs.size).drop i = [] := by simp; omega
    rw [no] at last
    rw [n1, n2]
    wp_walk using wpAny_loadPart' o1, wpAny_loadPart' o2
    show R (.ok (.ret (.bool (xs.size != ys.size)))) _
    rw [same]
    simpa using last
  | succ k ih =>
    intro i hk A R s hh
    obtain ⟨hp, g, dd, tk, os⟩ := s
    obtain ⟨o1, o2, each, last⟩ := hh
    unfold LsAt at o1 o2
    wp_walk using wpAny_loadPart' o1, wpAny_loadPart' o2
    have l1 : i < xs.size := by omega
    have l2 : i < ys.size := by omega
    have g1 : xs[((i : Nat) : Int).toNat]? = some xs[i] := by simp [l1]
    have g2 : ys[((i : Nat) : Int).toNat]? = some ys[i] := by simp [l2]
    have more : (List.range xs.size).drop i = i :: (List.range xs.size).drop (i + 1) := by simp [List.drop_eq_getElem_cons, l1]
    have up : ((i : Int) + 1) = ((i + 1 : Nat) : Int) := by push_cast; rfl
    rw [more, List.all_cons] at last
    rw [g1, g2]
    refine wpAny_bind (each i l1 l2 _ _ ?_)
    cases this : e i with
    | true =>
      rw [this] at last
      wp_walk
      rw [up]
      exact ⟨plainId_quiet plain_eq_loop _, codeAny_builtin entry_eq_loop (by
        rw [Around.under_plainId plain_eq_loop _]
        exact ih (i + 1) (by omega) A R _ ⟨o1, o2, each, by simpa using last⟩)⟩
    | false =>
      rw [this] at last
      wp_walk using wpAny_loadPart' o1, wpAny_loadPart' o2
      rw [g1, g2]
      wp_walk
      simpa using last
theorem qy_listNe (l m : Addr) (xs ys : Array Value) (n n' : Nat) (d d' : Option Addr) (sl sl' : Array (Option Value)) (same : xs.size = ys.size) (e : Nat → Bool) :
    MeetsIn pr wo (Builtin.«list.__ne__» ⟨[.ref l, .ref m], []⟩)
      (fun A R s => LsAt s l xs n d sl ∧ LsAt s m ys n' d' sl' ∧ (∀ j (h1 : j < xs.size) (h2 : j < ys.size), EqP pr wo A.in1 s xs[j] ys[j] (e j)) ∧ R (.ok (.ret (.bool (!(List.range xs.size).all e)))) s) := by
  intro A R s hh
  obtain ⟨hp, g, dd, tk, os⟩ := s
  obtain ⟨o1, o2, each, last⟩ := hh
  unfold LsAt at o1 o2
  have sub := AutoSeq1.sub_list_list
  have nn : ¬ (xs.size != ys.size) = true := by simp [same]
  wp_walk using wpAny_loadPart' o1, wpAny_loadPart' o2
  exact ⟨plainId_quiet plain_eq_loop _, codeAny_builtin entry_eq_loop (by
    rw [Around.under_plainId plain_eq_loop _]
    exact qy_neLoop l m xs ys n n' d d' sl sl' same e _ 0 rfl A R _ ⟨o1, o2, each, by simpa using last⟩)⟩
theorem qy_neLists {A : Around} {s : Shared} {l m : Addr} {xs ys : Array Value} {e : Nat → Bool} (h1 : s.heap.IsList l xs) (h2 : s.heap.IsList m ys) (same : xs.size = ys.size) (hu : A.units < cLine)
    (each : ∀ j (k1 : j < xs.size) (k2 : j < ys.size), EqP pr wo A.in1 s xs[j] ys[j] (e j)) (E Q : Value → Shared → Prop) (q : Q (.bool (!(List.range xs.size).all e)) s) : wpAny (model pr wo) A (richCompare .NotEq (.ref l) (.ref m)) Q E s := by
  obtain ⟨⟨c1, d1, t1, z1⟩, o1, e1, n1, f1⟩ := id h1
  obtain ⟨⟨c2, d2, t2, z2⟩, o2, e2, n2, f2⟩ := id h2
  simp only at e1 f1 e2 f2
  subst e1 f1 e2 f2
  have ta : s.TypeIs (.ref l) "list" := ⟨_, o1, rfl⟩
  have tb : s.TypeIs (.ref m) "list" := ⟨_, o2, rfl⟩
  exact wpAny_richCompare_same_room (op := .NotEq) ta tb F.slot_list_ne (call_meetsIn F.slot_list_ne ta F.entry_list_ne (F.args_list_ne_2 _ _) (qy_listNe l m xs ys n1 n2 d1 d2 z1 z2 same e)
    ⟨o1, o2, each, show Value.bool (!(List.range xs.size).all e) ≠ Value.notImplemented ∧ Q (.bool (!(List.range xs.size).all e)) s from ⟨(fun x => nomatch x), q⟩⟩) hu
end
end PySem.SeqAt
namespace Qy
open PySem PySem.Spec PySem.Calls L2 PyProof.Rows
/-- data that are compared, of nesting below so much -/
def sameD : Nat → D → Bool
  | 0, d => okP d
  | n + 1, d => okP d || (match d with
    | .lst ds => ds.all (sameD n)
    | .dk ks ds => ds.all (sameD n) && decide ks.Nodup
    | _ => false)
section
variable {X : Cx} {pins : List (Addr × Obj)} {σ : L2.St} {H : Hp} {s : Shared}
theorem deq_self {d : D} (h : okP d = true) : deq d d = true := PySem.SeqAt.eqv_refl _ (SeqAt.canLay_of_shaped h)
/-- two readings of the same data -/
def Tw (K : Fg) (H : Hp) (n : Nat) (x y : V) : Prop := ∃ d, sameD n d = true ∧ Rp K H d x ∧ Rp K H d y
theorem tw_leaf (I : Inv X pins σ H s) {A : Around} (hu : A.units + 66 < cLine) {d : D} (o : okP d = true) {x y : V} {v u : Value} (hx : Rp X.K H d x) (hy : Rp X.K H d y) (rx : RelV x v) (ry : RelV y u) : SeqAt.EqP X.prog X.w A s v u true := by
  obtain ⟨as, ra⟩ := Dp.reads I (toP d) x v (dp_of o hx) rx
  obtain ⟨bs, rb⟩ := Dp.reads I (toP d) y u (dp_of o hy) ry
  have z := SeqAt.eqAt_reads (toP d) (toP d) A s v u as bs ra rb (SeqAt.canLay_of_shaped o) (SeqAt.canLay_of_shaped o) (SeqAt.room_of_shaped o (by omega))
  have e : PyData.eqv (toP d) (toP d) = true := deq_self o
  rw [e] at z
  exact z.eqP
theorem tw_pairs {n : Nat} {K : Fg} : ∀ {ds : List D} {vs us : List V}, ds.all (sameD n) = true → Rps K H ds vs → Rps K H ds us → Paired (Tw K H n) vs us
  | [], vs, us, _, h1, h2 => by simp only [Rps] at h1 h2; subst h1; subst h2; exact .nil
  | d :: ds, vs, us, o, h1, h2 => by
    simp only [List.all_cons, Bool.and_eq_true] at o
    simp only [Rps] at h1 h2
    obtain ⟨v, r, rfl, q, z⟩ := h1
    obtain ⟨u, r', rfl, q', z'⟩ := h2
    exact .cons ⟨d, o.1, q, q'⟩ (tw_pairs o.2 z z')
theorem tw_vals {n : Nat} {K : Fg} : ∀ {kvs lvs : List (Key × V)} {ds : List D}, ds.all (sameD n) = true → (kvs.map (·.1)).Nodup → kvs.map (·.1) = lvs.map (·.1) → Rps K H ds (kvs.map (·.2)) → Rps K H ds (lvs.map (·.2)) → ∀ p ∈ kvs, ∃ u, valV lvs p.1 = some u ∧ Tw K H n p.2 u := by
  intro kvs
  induction kvs with
  | nil => intro _ _ _ _ _ _ _ p m; cases m
  | cons q kvs ih =>
    intro lvs ds o nd e h1 h2 p m
    cases lvs with
    | nil => cases e
    | cons l lvs =>
      cases ds with
      | nil => simp only [List.map_cons, Rps] at h1; cases h1
      | cons d ds =>
        simp only [List.map_cons, List.cons.injEq] at e
        simp only [List.all_cons, Bool.and_eq_true] at o
        simp only [List.map_cons, Rps] at h1 h2
        obtain ⟨v, r, e1, q1, z1⟩ := h1
        obtain ⟨u, r', e2, q2, z2⟩ := h2
        injection e1 with a1 b1
        injection e2 with a2 b2
        subst a1; subst b1; subst a2; subst b2
        rw [List.map_cons, List.nodup_cons] at nd
        obtain ⟨k, v⟩ := q
        obtain ⟨k', u⟩ := l
        simp only at e nd q1 q2
        obtain ⟨rfl, e⟩ := e
        rcases List.mem_cons.1 m with rfl | m
        · exact ⟨u, by simp [valV], d, o.1, q1, q2⟩
        · obtain ⟨w, e3, t⟩ := ih o.2 nd.2 e z1 z2 p m
          have ne : ¬ k = p.1 := fun z => nd.1 (by rw [z]; exact List.mem_map.2 ⟨p, m, rfl⟩)
          refine ⟨w, ?_, t⟩
          unfold valV at e3 ⊢
          rw [List.find?_cons_of_neg (by simpa using ne)]
          exact e3
/-- lists of such data -/
theorem tw_list (I : Inv X pins σ H s) {n : Nat} (ih : ∀ (A : Around), A.units + n + 66 < cLine → ∀ x y v u, Tw X.K H n x y → RelV x v → RelV y u → SeqAt.EqP X.prog X.w A s v u true) {A : Around} (hu : A.units + (n + 1) + 66 < cLine) {ds : List D} (o : ds.all (sameD n) = true)
    {a b : Addr} {xs ys : List V} (ha : H a = some (.lst xs)) (hb : H b = some (.lst ys)) (h1 : Rps X.K H ds xs) (h2 : Rps X.K H ds ys) : ∃ us ws : List Value, s.heap.IsList a us.toArray ∧ s.heap.IsList b ws.toArray ∧ us.toArray.size = ws.toArray.size ∧
      ∀ j (k1 : j < us.toArray.size) (k2 : j < ws.toArray.size), SeqAt.EqP X.prog X.w A.in1 s us.toArray[j] ws.toArray[j] true := by
  obtain ⟨us, r1, p1, _⟩ := I.list (.inl (.inl ha))
  obtain ⟨ws, r2, p2, _⟩ := I.list (.inl (.inl hb))
  have hp := tw_pairs o h1 h2
  refine ⟨us, ws, p1.isList, p2.isList, ?_, fun j k1 k2 => ?_⟩
  · rw [List.size_toArray, List.size_toArray, ← r1.length, ← r2.length]
    exact Paired.length hp
  · have k := items_run (ih A.in1 (by show A.units + 1 + n + 66 < cLine; omega)) hp r1 r2 j (by simpa using k1) (by simpa using k2)
    simpa using k
theorem tw_run (I : Inv X pins σ H s) : ∀ (n : Nat) (A : Around), A.units + n + 66 < cLine → ∀ x y v u, Tw X.K H n x y → RelV x v → RelV y u → SeqAt.EqP X.prog X.w A s v u true := by
  intro n
  induction n with
  | zero => exact fun A hu x y v u ⟨d, o, hx, hy⟩ rx ry => tw_leaf I (by omega) o hx hy rx ry
  | succ n ih =>
    intro A hu x y v u ⟨d, o, hx, hy⟩ rx ry
    by_cases ok : okP d = true
    · exact tw_leaf I (by omega) ok hx hy rx ry
    · simp only [sameD, ok, Bool.false_or] at o
      cases d <;> try (cases o; done)
      · rename_i ds
        simp only [Rp] at hx hy
        obtain ⟨a, xs, rfl, ha, h1⟩ := hx
        obtain ⟨b, ys, rfl, hb, h2⟩ := hy
        obtain rfl : v = Value.ref a := rx
        obtain rfl : u = Value.ref b := ry
        by_cases e : a = b
        · subst e; exact (SeqAt.EqAt.same _).eqP
        · obtain ⟨us, ws, p1, p2, hsz, he⟩ := tw_list I ih hu o ha hb h1 h2
          refine SeqAt.eqP_refs e fun E Q q => SeqAt.rcP_lists (e := fun _ => true) p1 p2 hsz (by omega) he E Q ?_
          rw [show ((List.range us.toArray.size).all fun _ => true) = true from List.all_eq_true.mpr fun _ _ => rfl]
          exact q
      · rename_i ks ds
        rw [Bool.and_eq_true] at o
        simp only [Rp] at hx hy
        obtain ⟨a, kvs, rfl, ha, k1, h1⟩ := hx
        obtain ⟨b, lvs, rfl, hb, k2, h2⟩ := hy
        obtain rfl : v = Value.ref a := rx
        obtain rfl : u = Value.ref b := ry
        by_cases e : a = b
        · subst e; exact (SeqAt.EqAt.same _).eqP
        · obtain ⟨_, na, xs, kx, dx⟩ := dk_rd I.hok ha
          obtain ⟨_, nb, ys, ky, dy⟩ := dk_rd I.hok hb
          have nd : (kvs.map (·.1)).Nodup := by rw [k1]; exact of_decide_eq_true o.2
          have hp := tw_vals o.1 nd (k1.trans k2.symm) h1 h2
          refine SeqAt.eqP_refs e fun E Q q => PySem.W.rcP_dicts (knd := mixKind X.prog X.w) (r := true) na nb dx dy (by omega) (fun _ => L2.hits_run (ih A.in1 (by show A.units + 1 + n + 66 < cLine; omega)) ky kx hp) E Q ?_
          have l : xs.length = ys.length := by
            rw [← kx.length, ← ky.length]
            have := congrArg List.length (k1.trans k2.symm)
            simpa using this
          rw [show (xs.length == ys.length && true) = true from by rw [l]; simp]
          exact q
end
section
variable {X : Cx}
/-- two lists of the same data -/
def rTwL (K : Fg) (z : Bool) : R2 := fun x y H Q => ∃ n ds a b xs ys, n ≤ 4 ∧ ds.all (sameD n) = true ∧ x = .ref a ∧ y = .ref b ∧ H a = some (.lst xs) ∧ H b = some (.lst ys) ∧ Rps K H ds xs ∧ Rps K H ds ys ∧ Q (.bl (!z)) H
theorem op_neTw (hu : X.A.units + 80 < cLine) : OpR X (compareOp .NotEq) (rTwL X.K true) := by
  intro pins s σ H x y v u Q I rx ry h
  obtain ⟨n, ds, a, b, xs, ys, hn, o, rfl, rfl, ha, hb, h1, h2, q⟩ := h
  obtain rfl : v = Value.ref a := rx
  obtain rfl : u = Value.ref b := ry
  obtain ⟨us, ws, p1, p2, hsz, he⟩ := tw_list I (tw_run I n) (A := X.A) (by omega) o ha hb h1 h2
  refine SeqAt.qy_neLists (e := fun _ => true) p1 p2 hsz (by omega) he _ _ ?_
  rw [show ((List.range us.toArray.size).all fun _ => true) = true from List.all_eq_true.mpr fun _ _ => rfl]
  exact ⟨.bl false, H, I, rfl, q⟩
open Classical in
/-- the same data twice, lists -/
noncomputable def eqTw (z : Bool) (x y : D) : Option Bool := match x, y with
  | .lst ds, .lst es => if ds = es ∧ ds.all (sameD 4) = true then some (!z) else none
  | _, _ => none
theorem cmg_tw (z : Bool) : CmG X (rTwL X.K z) (eqTw z) := fun S H x y c v u Q rx ry e q => by
  cases x <;> try (cases e; done)
  cases y <;> try (cases e; done)
  rename_i ds es
  unfold eqTw at e
  simp only at e
  split at e
  · rename_i h
    obtain ⟨rfl, o⟩ := h
    cases e
    simp only [Rp] at rx ry
    obtain ⟨a, xs, rfl, ha, h1⟩ := rx
    obtain ⟨b, ys, rfl, hb, h2⟩ := ry
    exact ⟨4, ds, a, b, xs, ys, Nat.le_refl _, o, rfl, rfl, ha, hb, h1, h2, q⟩
  · cases e
theorem eqTw_self {ds : List D} (z : Bool) (h : ds.all (sameD 4) = true) : eqTw z (.lst ds) (.lst ds) = some (!z) := if_pos ⟨rfl, h⟩
end
end Qy

set_option Elab.async false
set_option linter.all false
set_option maxRecDepth 100000
/-! Q41: list comprehensions of two clauses (the second over a list or a tuple). -/
namespace Qy
open PySem PySem.Spec PySem.Calls L2 PyProof.Rows
section
variable {X : Cx} {κ : Kp} {W : WX} {K : Fg} {Wo : Addr → Prop} {σ : L2.St} {H : Hp} {ρ : Rho} {tg iter elt tg1 iter1 e : Expr} {ifs ifs1 : List Expr} {scope : Scope} {own : List (Str × Nat)} {pos : Pos} {fi : M (List D)} {gt gt1 : D → M Unit} {tt tt1 : M Bool} {fe f : M D}
end
end Qy

set_option Elab.async false
set_option linter.all false
set_option maxRecDepth 100000
/-! Q42: f(.., {}) where the callee changes its last argument; {k: v}. -/
namespace Qy
open PySem PySem.Spec PySem.Calls L2 PyProof.Rows
section
variable {X : Cx} {κ : Kp} {W : WX} {e : Expr} {es : List Expr} {fa : M (List ArgR)} {ks : List Kd} {n : Nat} {g : M Fl} {ρ : Rho} {Wo : Addr → Prop} {σ : L2.St} {H : Hp}
/-! ### {k: v} -/
end
end Qy

set_option Elab.async false
set_option linter.all false
set_option maxRecDepth 100000
/-! Q43: raise C(), a class of one's own without __init__ over ValueError. -/
namespace Qy
open PySem PySem.Spec PySem.Calls L2 PyProof.Rows
section
variable {X : Cx} {κ : Kp} {W : WX} {C : Addr} {x : Str} {p pos rpos : Pos}
end
end Qy

set_option Elab.async false
set_option linter.all false
set_option maxRecDepth 100000
/-! Q44: x += e, x -= e over ints; list(range(n)); dict.clear(). -/
namespace Qy
open PySem PySem.Spec PySem.Calls L2 PyProof.Rows
section
variable {X : Cx} {κ : Kp} {W : WX} {x : Str} {e : Expr} {f : M D} {pos p' : Pos}
end
end Qy

set_option Elab.async false
set_option linter.all false
set_option maxRecDepth 100000
/-! Q45: sorted(t) of a tuple. -/
namespace Qy
open PySem PySem.Spec PySem.Calls L2 PyProof.Rows
section
variable {prog : Program} {w : World} {A : Around} {E : Value → Shared → Prop} {s : Shared}
end
section
variable {X : Cx} {κ : Kp} {W : WX} {a : Expr} {f : M D} {p pos : Pos}
end
end Qy

set_option Elab.async false
set_option linter.all false
set_option maxRecDepth 100000
/-! Q46: t[::-1] of a tuple. -/
namespace Qy
open PySem PySem.Spec PySem.Calls L2 PyProof.Rows
section
variable {prog : Program} {w : World} {A : Around} {E : Value → Shared → Prop} {s : Shared}
end
section
variable {X : Cx} {κ : Kp} {W : WX} {e : Expr} {f : M D} {k : Nat} {p1 p2 p3 pos : Pos} {te : TE}
end
end Qy

set_option Elab.async false
set_option linter.all false
set_option maxRecDepth 100000
/-! Q47: d.clear() of an owned dict. -/
namespace Qy
open PySem PySem.Spec PySem.Calls L2 PyProof.Rows
section
variable {X : Cx} {κ : Kp} {W : WX} {x : Str} {p cpos apos : Pos}
end
end Qy

set_option Elab.async false
set_option linter.all false
set_option maxRecDepth 100000
/-! Q48: a + b, a & b of instances by own methods. -/
namespace Qy
open PySem PySem.Spec PySem.Calls L2 PyProof.Rows
section
variable {prog : Program} {w : World} {A : Around} {E : Value → Shared → Prop} {s : Shared} {K : Fg} {x C L f : Addr} {h₀ : Heap} {m : Str → Option Value} {ox : Obj} {od : Option Obj} {T : String}
end
section
variable {X : Cx} {κ : Kp} {W : WX} {k n : Nat} {f : Addr} {ps : List Str} {g : M Fl} {p pos : Pos} {a b e : Expr} {fa fb : M D}
end
end Qy

set_option Elab.async false
set_option linter.all false
set_option maxRecDepth 100000
/-! Q49: a[b] of an instance by its own method. -/
namespace Qy
open PySem PySem.Spec PySem.Calls L2 PyProof.Rows
section
variable {X : Cx} {κ : Kp} {W : WX} {k n : Nat} {f : Addr} {ps : List Str} {g : M Fl} {p pos : Pos} {a b e : Expr} {fa fb : M D}
end
end Qy

set_option Elab.async false
set_option linter.all false
set_option maxRecDepth 100000
/-! Q50: d.items() and d.keys() walked, s.upper(), d.pop(k) as a statement. -/
namespace Qy
open PySem PySem.Spec PySem.Calls L2 PyProof.Rows
section
variable {X : Cx} {κ : Kp} {W : WX} {x : Str} {p pos cpos apos tpos : Pos} {tg e : Expr} {f fk : M D} {elts : List Expr} {kk : Nat}
/-! ### borrowed -/
/-! ### s.upper() -/
/-! ### d.pop(k) -/
end
end Qy

set_option Elab.async false
set_option linter.all false
set_option maxRecDepth 100000
/-! Q51: min and max of two numbers. -/
namespace Qy
open PySem PySem.Spec PySem.Calls L2 PyProof.Rows
section
variable {X : Cx} {κ : Kp} {W : WX} {p pos : Pos} {a b : Expr} {f1 f2 : M D}
end
end Qy

set_option Elab.async false
set_option linter.all false
set_option maxRecDepth 100000
/-! Q52: a for over a list of one's own that the body does not change. -/
namespace Qy
open PySem PySem.Spec PySem.Calls L2 PyProof.Rows
def isTg (kk : Nat) : Slot → Bool
  | .ow (some k) _ => k == kk
  | .dp (some k) _ => k == kk
  | _ => false
section
variable {X : Cx} {κ : Kp} {W : WX} {K : Fg} {Wo : Addr → Prop} {σ : L2.St} {H : Hp} {ρ : Rho}
def Kp.pin (κ : Kp) (kk : Nat) (l : Addr) : Kp := { κ with P := (κ.P ++ List.replicate (kk + 1) 0).set kk l }
theorem pin_at {kk : Nat} {l : Addr} : (κ.pin kk l).P[kk]? = some l := by
  unfold Kp.pin
  rw [List.getElem?_set_self (by simp; omega)]
theorem pin_ne {kk k : Nat} {l l' : Addr} (n : k ≠ kk) (h : κ.P[k]? = some l') : (κ.pin kk l).P[k]? = some l' := by
  unfold Kp.pin
  have := (List.getElem?_eq_some_iff.1 h).1
  rw [List.getElem?_set_ne (fun z => n z.symm), List.getElem?_append_left this]
  exact h
theorem Rel.pin (r : Rel K κ ρ Wo σ H) {i kk : Nat} {t : Option Nat} {d : D} {l : Addr} (hr : ρ[i]? = some (.ow t d)) (hl : σ[i]? = some (some (.ref l))) (nt : ρ.all (fun s => !isTg kk s) = true) : Rel K (κ.pin kk l) (ρ.set i (.ow (some kk) d)) Wo σ H := by
  have nt' : ∀ {j : Nat} {k : Nat} {d : D}, ρ[j]? = some (.ow (some k) d) → k ≠ kk := fun h z => by
    have := (List.all_eq_true.1 nt) _ (List.mem_of_getElem? h)
    simp [isTg, z] at this
  have back : ∀ {j : Nat} {t' : Option Nat} {d' : D}, (ρ.set i (.ow (some kk) d))[j]? = some (.ow t' d') → ∃ t1, ρ[j]? = some (.ow t1 d') ∧ ((j = i ∧ t' = some kk) ∨ (j ≠ i ∧ t1 = t')) := fun {j t' d'} h => by
    rcases set_at h with ⟨rfl, z, _⟩ | ⟨n, h⟩
    · cases z; exact ⟨t, hr, .inl ⟨rfl, rfl⟩⟩
    · exact ⟨t', h, .inr ⟨fun z => n z.symm, rfl⟩⟩
  refine ⟨by simp [r.len], fun j d h => ?_, fun j t' d' h => ?_, fun a b ta tb d1 d2 m g1 g2 g3 g4 => ?_, fun j d h => ?_, r.bo, r.bd, r.bn, r.ht, r.nx, r.tu, fun j d h => ?_, ?_⟩
  · rcases set_at h with ⟨_, z, _⟩ | ⟨_, h⟩
    · cases z
    · exact r.sh j d h
  · obtain ⟨t1, h1, c⟩ := back h
    obtain ⟨l', o, e1, w, h2, cn, k⟩ := r.ow j t1 d' h1
    refine ⟨l', o, e1, w, h2, cn, fun k' e => ?_⟩
    rcases c with ⟨rfl, z⟩ | ⟨n, rfl⟩
    · rw [z] at e
      cases e
      rw [hl] at e1; cases e1
      exact pin_at
    · subst e
      exact pin_ne (nt' h1) (k k' rfl)
  · obtain ⟨t1, h1, _⟩ := back g1
    obtain ⟨t2, h2, _⟩ := back g2
    exact r.dj a b t1 t2 d1 d2 m h1 h2 g3 g4
  · rcases set_at h with ⟨_, z, _⟩ | ⟨_, h⟩
    · cases z
    · exact r.bw j d h
  · rcases set_at h with ⟨_, z, _⟩ | ⟨_, h⟩
    · cases z
    · exact r.xc j d h
  · refine r.dp.tr (fun j t' d' h => ?_) (fun j t' d' m h e => ?_) (fun a w _ => ⟨w, fun u z => z⟩) (Ord.refl _)
    · rcases set_at h with ⟨_, z, _⟩ | ⟨_, h⟩
      · cases z
      · refine ⟨h, rfl, fun k' l' ek hk => pin_ne (fun z => ?_) hk⟩
        subst ek
        have := (List.all_eq_true.1 nt) _ (List.mem_of_getElem? h)
        simp [isTg, z] at this
    · obtain ⟨t1, h1, _⟩ := back h
      exact .inl ⟨t1, d', h1, e⟩
theorem PSs.ex {e : List Stmt} {α : Type} {t : α → TS} (h : ∀ k, PSs X e (t k)) : PSs X e (fun D σ H => ∃ k, t k D σ H) := ⟨fun p s σ H D I ⟨k, q⟩ => (h k).run p s σ H D I q⟩
end
end Qy

set_option Elab.async false
set_option linter.all false
set_option maxRecDepth 100000
/-! Q53 (begun): things of one's own hidden while a loop fills them; for `known = d.setdefault(k, []); known.append(v)`. -/
namespace Qy
open PySem PySem.Spec PySem.Calls L2 PyProof.Rows
def Kp.hidS (κ : Kp) (N : Addr → Prop) : Kp := { κ with Xh := fun a => κ.Xh a ∨ N a }
section
variable {κ : Kp} {K : Fg} {Wo : Addr → Prop} {σ : L2.St} {H : Hp} {ρ : Rho} {N : Addr → Prop} {l : Addr}
end
end Qy

set_option Elab.async false
set_option linter.all false
set_option maxRecDepth 100000
/-! Q54: for g in e1: for t in e2: known = d.setdefault(t, []); known.append(g). -/
namespace Qy
open PySem PySem.Spec PySem.Calls L2 PyProof.Rows
abbrev Acc := List (Key × List D)
def pushL (k : Key) (d : D) : Acc → Acc
  | [] => [(k, [d])]
  | z :: C => if z.1 = k then (z.1, z.2 ++ [d]) :: C else z :: pushL k d C
section
variable {X : Cx} {κ : Kp} {W : WX} {K : Fg} {Wo : Addr → Prop} {σ : L2.St} {H H' : Hp} {ρ : Rho} {N N' : Addr → Prop} {l : Addr}
/-- the lists as they lie -/
def Lays (K : Fg) (Sv H : Hp) (N : Addr → Prop) : Acc → List (Key × V) → Prop
  | [], [] => True
  | z :: C, kv :: kvs => z.1 = kv.1 ∧ (∃ b vs, kv.2 = .ref b ∧ N b ∧ H b = some (.lst vs) ∧ Rps K Sv z.2 vs) ∧ Lays K Sv H N C kvs
  | _, _ => False
theorem Lays.keys {Sv : Hp} : ∀ {C : Acc} {kvs : List (Key × V)}, Lays K Sv H N C kvs → kvs.map (·.1) = C.map (·.1)
  | [], [], _ => rfl
  | z :: C, kv :: kvs, h => by simp only [List.map_cons]; rw [h.1, h.2.2.keys]
  | [], _ :: _, h => h.elim
  | _ :: _, [], h => h.elim
theorem Lays.mono {Sv Sw : Hp} : ∀ {C : Acc} {kvs : List (Key × V)}, Lays K Sv H N C kvs → Ord Sv Sw → (∀ a, V.ref a ∈ kvs.map (·.2) → N a → H' a = H a ∧ N' a) → Lays K Sw H' N' C kvs
  | [], [], _, _, _ => trivial
  | z :: C, kv :: kvs, h, o, s => by
    obtain ⟨h1, ⟨b, vs, e, n, hb, rs⟩, h2⟩ := h
    obtain ⟨s1, s2⟩ := s b (by rw [List.map_cons, e]; exact List.mem_cons_self) n
    exact ⟨h1, ⟨b, vs, e, s2, by rw [s1]; exact hb, rs.mono o⟩, h2.mono o fun a m => s a (List.mem_cons_of_mem _ m)⟩
  | [], _ :: _, h, _, _ => h.elim
  | _ :: _, [], h, _, _ => h.elim
theorem Lays.mem {Sv : Hp} : ∀ {C : Acc} {kvs : List (Key × V)}, Lays K Sv H N C kvs → ∀ v ∈ kvs.map (·.2), ∃ b, v = .ref b ∧ N b
  | [], [], _, v, m => by cases m
  | z :: C, kv :: kvs, h, v, m => by
    rcases List.mem_cons.1 m with rfl | m
    · obtain ⟨b, vs, e, n, _⟩ := h.2.1
      exact ⟨b, e, n⟩
    · exact h.2.2.mem v m
  | [], _ :: _, h, _, _ => h.elim
  | _ :: _, [], h, _, _ => h.elim
/-- a key that is there -/
theorem Lays.has {Sv : Hp} {k : Key} {u : V} : ∀ {C : Acc} {kvs : List (Key × V)}, Lays K Sv H N C kvs → (kvs.map (·.2)).Nodup → valV kvs k = some u → ∃ b vs, u = .ref b ∧ V.ref b ∈ kvs.map (·.2) ∧ N b ∧ H b = some (.lst vs) ∧ (∃ z ∈ C, z.2.length = vs.length) ∧
    ∀ {Sw H' : Hp} {d : D} {v : V}, Ord Sv Sw → (∀ a, a ≠ b → N a → H' a = H a) → H' b = some (.lst (vs ++ [v])) → Rp K Sw d v → Lays K Sw H' N (pushL k d C) kvs
  | [], [], _, _, e => by cases e
  | z :: C, kv :: kvs, h, nd, e => by
    obtain ⟨h1, ⟨b, vs, eb, n, hb, rs⟩, h2⟩ := h
    rw [List.map_cons, List.nodup_cons] at nd
    by_cases c : kv.1 = k
    · rw [valV_pos c, eb] at e
      cases e
      refine ⟨b, vs, rfl, by rw [List.map_cons, eb]; exact List.mem_cons_self, n, hb, ⟨z, List.mem_cons_self, rs.length⟩, fun {Sw H' d v} o s hb' rv => ?_⟩
      unfold pushL
      rw [if_pos (h1.trans c)]
      refine ⟨h1, ⟨b, _, eb, n, hb', (rs.mono o).append (rps_cons rv rps_nil)⟩, h2.mono o fun a m na => ⟨s a (fun e => nd.1 (by rw [eb, ← e]; exact m)) na, na⟩⟩
    · rw [valV_neg c] at e
      obtain ⟨b', vs', e1, m1, n1, hb1, ⟨z1, mz, lz⟩, f⟩ := h2.has nd.2 e
      refine ⟨b', vs', e1, List.mem_cons_of_mem _ m1, n1, hb1, ⟨z1, List.mem_cons_of_mem _ mz, lz⟩, fun {Sw H' d v} o s hb' rv => ?_⟩
      unfold pushL
      rw [if_neg (fun z => c (h1.symm.trans z))]
      have ne : b ≠ b' := fun q => nd.1 (by rw [eb, q]; exact m1)
      exact ⟨h1, ⟨b, vs, eb, n, by rw [s b ne n]; exact hb, rs.mono o⟩, f o s hb' rv⟩
  | [], _ :: _, h, _, _ => h.elim
  | _ :: _, [], h, _, _ => h.elim
/-- a key that is not -/
theorem Lays.new {Sv Sw : Hp} {k : Key} {d : D} {b : Addr} {v : V} : ∀ {C : Acc} {kvs : List (Key × V)}, Lays K Sv H N C kvs → valV kvs k = none → Ord Sv Sw → (∀ a, V.ref a ∈ kvs.map (·.2) → N a → H' a = H a ∧ N' a) → N' b → H' b = some (.lst [v]) → Rp K Sw d v → Lays K Sw H' N' (pushL k d C) (kvs ++ [(k, .ref b)])
  | [], [], _, _, _, _, n, hb, rv => ⟨rfl, ⟨b, [v], rfl, n, hb, rps_cons rv rps_nil⟩, trivial⟩
  | z :: C, kv :: kvs, h, e, o, s, n, hb, rv => by
    obtain ⟨h1, ⟨b', vs, eb, n', hb', rs⟩, h2⟩ := h
    have c : ¬ kv.1 = k := fun c => by rw [valV_pos c] at e; cases e
    rw [valV_neg c] at e
    unfold pushL
    rw [if_neg (fun z => c (h1.symm.trans z))]
    obtain ⟨s1, s2⟩ := s b' (by rw [List.map_cons, eb]; exact List.mem_cons_self) n'
    exact ⟨h1, ⟨b', vs, eb, s2, by rw [s1]; exact hb', rs.mono o⟩, h2.new e o (fun a m => s a (List.mem_cons_of_mem _ m)) n hb rv⟩
  | [], _ :: _, h, _, _, _, _, _, _ => h.elim
  | _ :: _, [], h, _, _, _, _, _, _ => h.elim
/-! ### one step -/
end
end Qy

set_option Elab.async false
set_option linter.all false
set_option maxRecDepth 100000
/-! Q55: the double loop that shares givers out by taker. -/
namespace Qy
open PySem PySem.Spec PySem.Calls L2 PyProof.Rows
section
variable {X : Cx} {κ : Kp} {W : WX} {K : Fg} {Wo : Addr → Prop} {σ : L2.St} {H H' : Hp} {ρ ρ' : Rho} {N N' : Addr → Prop} {l : Addr} {iS ig it ik : Nat} {C : Acc}
theorem Lays.same {Sv Sw : Hp} : ∀ {C : Acc} {kvs : List (Key × V)}, Lays K Sv H N C kvs → Ord Sv Sw → (∀ a o, N a → H a = some o → H' a = some o) → Lays K Sw H' N C kvs
  | [], [], _, _, _ => trivial
  | z :: C, kv :: kvs, h, o, s => by
    obtain ⟨h1, ⟨b, vs, e, n, hb, rs⟩, h2⟩ := h
    exact ⟨h1, ⟨b, vs, e, n, s b _ n hb, rs.mono o⟩, h2.same o s⟩
  | [], _ :: _, h, _, _ => h.elim
  | _ :: _, [], h, _, _ => h.elim
/-- the lists shown -/
theorem Lays.show {Sv : Hp} {Sw : Hp} (o : Ord Sv Sw) : ∀ {C : Acc} {kvs : List (Key × V)}, Lays K Sv H N C kvs → (∀ b vs, V.ref b ∈ kvs.map (·.2) → N b → H b = some (.lst vs) → Sw b = some (.lst vs)) → Rps K Sw (C.map fun z => .lst z.2) (kvs.map (·.2))
  | [], [], _, _ => rps_nil
  | z :: C, kv :: kvs, h, s => by
    obtain ⟨h1, ⟨b, vs, e, n, hb, rs⟩, h2⟩ := h
    refine rps_cons ?_ (h2.show o fun b vs m => s b vs (List.mem_cons_of_mem _ m))
    simp only [Rp]
    exact ⟨b, vs, e, s b vs (by rw [List.map_cons, e]; exact List.mem_cons_self) n hb, rs.mono o⟩
  | [], _ :: _, h, _ => h.elim
  | _ :: _, [], h, _ => h.elim
variable {e1 e2 : Expr} {fi : M (List D)} {f2 : M D} {xS xg xt xk : Str} {p1 p2 p3 p4 p5 p6 p7 p8 ap cp sp ap2 cp2 sp2 q1 q2 : Pos}
end
end Qy

set_option Elab.async false
set_option linter.all false
set_option maxRecDepth 100000
/-! Q56: x op= e with a condition; sum, max, min of a list of numbers; gcd. -/
namespace Qy
open PySem PySem.Spec PySem.Calls L2 PyProof.Rows
section
variable {X : Cx} {κ : Kp} {W : WX} {x : Str} {a b e : Expr} {f f1 f2 : M D} {p pos p' : Pos}
/-! ### lists of numbers -/
/-! ### gcd -/
end
end Qy

set_option Elab.async false
set_option linter.all false
set_option maxRecDepth 100000
/-! Q57: d[None] = e for a dict of one's own: it is given away, its length alone stays known. -/
namespace Qy
open PySem PySem.Spec PySem.Calls L2 PyProof.Rows

section
variable {X : Cx} {pins : List (Addr × Obj)} {σ : L2.St} {H : Hp} {s : Shared} {a : Addr} {v : V} {r : Value} {A : Around} {E : Value → Shared → Prop} {kvs : List (Key × V)}
end
section
variable {X : Cx} {o value : Expr} {td tv : TE} {pos pos' pos2 : Pos}
end
section
variable {K : Fg} {κ : Kp} {ρ : Rho} {Wo : Addr → Prop} {σ : L2.St} {H : Hp}
end
section
variable {X : Cx} {κ : Kp} {W : WX} {x : Str} {e : Expr} {f : M D} {p pos pos' pos2 : Pos}
end
end Qy

set_option Elab.async false
set_option linter.all false
set_option maxRecDepth 100000
/-! Q58: evaluation with everything frozen; new things that own things. -/
namespace Qy
open PySem PySem.Spec PySem.Calls L2 PyProof.Rows
section
variable {K : Fg} {κ : Kp} {ρ : Rho} {Wo : Addr → Prop} {σ : L2.St} {H H' : Hp} {i : Nat}
/-! ### frozen -/
/-- nothing is hidden, nothing is borrowed -/
def Kp.free (κ : Kp) : Kp := { κ with Xh := fun _ => False, B := fun _ => none }
end
section
variable {X : Cx} {κ : Kp} {W : WX} {e : Expr} {f : M D}
end
end Qy

set_option Elab.async false
set_option linter.all false
set_option maxRecDepth 100000
/-! Q59: new things that own things: made, assigned, handed back. -/
namespace Qy
open PySem PySem.Spec PySem.Calls L2 PyProof.Rows
mutual
theorem Rp.rq {K : Fg} {S H : Hp} : ∀ {d : D} {v : V}, Rp K S d v → Rq K S H d v []
  | .my _, v, h => by simp only [Rp] at h
  | .tup ds, v, h => by
    simp only [Rp] at h
    obtain ⟨a, vs, e, q, r⟩ := h
    simp only [Rq]
    exact ⟨a, vs, e, q, Rps.rq r⟩
  | .non, v, h => by simp only [Rp] at h; simp only [Rq]; exact ⟨trivial, h⟩
  | .bl b, v, h => by simp only [Rp] at h; simp only [Rq]; exact ⟨trivial, h⟩
  | .int i, v, h => by simp only [Rp] at h; simp only [Rq]; exact ⟨trivial, h⟩
  | .str s, v, h => by simp only [Rp] at h; simp only [Rq]; exact ⟨trivial, h⟩
  | .lst ds, v, h => by simp only [Rq]; exact ⟨trivial, h⟩
  | .dk ks ds, v, h => by simp only [Rq]; exact ⟨trivial, h⟩
  | .dt ks ds, v, h => by simp only [Rq]; exact ⟨trivial, h⟩
  | .obj c ns ds, v, h => by simp only [Rq]; exact ⟨trivial, h⟩
  | .scr ns, v, h => by simp only [Rq]; exact ⟨trivial, h⟩
  | .dn n, v, h => by simp only [Rq]; exact ⟨trivial, h⟩
theorem Rps.rq {K : Fg} {S H : Hp} : ∀ {ds : List D} {vs : List V}, Rps K S ds vs → Rqs K S H ds vs []
  | [], vs, h => by simp only [Rps] at h; simp only [Rqs]; exact ⟨h, trivial⟩
  | d :: ds, vs, h => by
    simp only [Rps] at h
    obtain ⟨v, r, e, q, z⟩ := h
    simp only [Rqs]
    exact ⟨v, r, [], [], e, rfl, Rp.rq q, Rps.rq z⟩
end
section
variable {K : Fg} {κ : Kp} {W : WX} {ρ : Rho} {Wo : Addr → Prop} {σ : L2.St} {H H' H0 : Hp} {F : List Addr}
/-- the addresses F are hidden -/
abbrev Kp.hF (κ : Kp) (F : List Addr) : Kp := κ.hidS fun a => a ∈ F
/-- the outcome: a thing whose own parts are new -/
def EvN (K : Fg) (κ : Kp) (W : WX) (Wo : Addr → Prop) (σ : L2.St) (H : Hp) (r : R D) (Q : VK) : Prop := match r with
  | .ok d ρ' => ∀ v F H', Fr Wo H H' → F.Nodup → (∀ a ∈ F, H a = none) → Rel K (κ.hF F) ρ' Wo σ H' → Rq K (vw (κ.hF F) Wo H') H' d v F → Q v H'
  | .er e ρ' => ∀ cls dd H', Fr Wo H H' → Rel K κ ρ' Wo σ H' → Xp K (vw κ Wo H') H' e cls dd → W cls dd σ H'
  | .st => False
end
section
variable {X : Cx} {κ : Kp} {W : WX} {e : Expr} {es : List Expr} {f : M D} {pos : Pos}
/-! ### rows of such things -/
theorem PA.ex {e : List Expr} {α : Type} {t : α → TA} (h : ∀ k, PA X e (t k)) : PA X e (fun σ H Q => ∃ k, t k σ H Q) := ⟨fun p p2 s σ H Q I ⟨k, q⟩ => (h k).run p p2 s σ H Q I q⟩
theorem Rqs.length {K : Fg} {S H : Hp} : ∀ {ds : List D} {vs : List V} {F : List Addr}, Rqs K S H ds vs F → ds.length = vs.length
  | [], vs, F, h => by simp only [Rqs] at h; rw [h.1]; rfl
  | d :: ds, vs, F, h => by
    simp only [Rqs] at h
    obtain ⟨v, r, F1, F2, e1, _, _, z⟩ := h
    rw [e1, List.length_cons, List.length_cons, Rqs.length z]
/-! ### statements -/
end
end Qy

set_option Elab.async false
set_option linter.all false
set_option maxRecDepth 100000
/-! Q60: d.get(k, z) of a dict in a slot. -/
namespace Qy
open PySem PySem.Spec L2
section
variable {X : Cx} {κ : Kp} {W : WX} {b c : Expr} {apos cpos : Pos} {f2 f3 : M D}
end
end Qy

set_option Elab.async false
set_option linter.all false
set_option maxRecDepth 100000
/-! Q61: a list times a number. -/
namespace Qy
open PySem PySem.Spec L2 PyProof.Rows
section
variable {X : Cx} {κ : Kp} {W : WX} {a b : Expr} {pos : Pos} {f1 f2 : M D}
end
end Qy

set_option Elab.async false
set_option linter.all false
set_option maxRecDepth 100000
/-! Q62: two lists (or tuples) of alike things by <. -/
namespace Qy
open PySem PySem.Spec L2 PyProof.Rows
end Qy

set_option Elab.async false
set_option linter.all false
set_option maxRecDepth 100000
/-! Q63: a def with one default (a number), its last parameter left out. -/
namespace Qy
open PySem PySem.Spec PySem.Calls L2 PyProof.Rows
structure FnPD1 (P : Program) (w : World) (K : Fg) (mg : Str → Option Value) (base : Heap) (k : Nat) (f : Addr) (ps : List Str) (ks : List Kd) (n : Nat) (g : M Fl) (i : Int) : Prop where
  ex : ∃ fd ds, Binds K fd ps ds ∧ Vals [V.int i] ds ∧ PySem.W.keepIn K (.ref f) = true ∧ FnQ P w K mg base k f fd ps ks n g
theorem FnPD1.mono {P : Program} {w : World} {K : Fg} {mg : Str → Option Value} {base : Heap} {j k : Nat} {f : Addr} {ps : List Str} {ks : List Kd} {n : Nat} {g : M Fl} {i : Int} (F : FnPD1 P w K mg base j f ps ks n g i) (h : j ≤ k) : FnPD1 P w K mg base k f ps ks n g i :=
  let ⟨fd, ds, a, v, b, c⟩ := F.ex; ⟨fd, ds, a, v, b, c.mono h⟩
section
variable {X : Cx} {κ : Kp} {W : WX} {k n : Nat} {f : Addr} {ps : List Str} {ks : List Kd} {g : M Fl} {x : Str} {p pos : Pos} {e : Expr} {es : List Expr} {fa : M (List ArgR)} {i : Int}
end
end Qy

set_option Elab.async false
set_option linter.all false
set_option maxRecDepth 100000
/-! Q64: a call whose result has new parts; a list within a tuple of one's own is changed. -/
namespace Qy
open PySem PySem.Spec PySem.Calls L2 PyProof.Rows
/-! ### what is not marked -/
mutual
theorem Rq.plain {K : Fg} {S H : Hp} : ∀ {d : D} {v : V} {F : List Addr}, nomy d = true → Rq K S H d v F → F = [] ∧ Rp K S d v
  | .my _, v, F, n, _ => by simp only [nomy] at n; cases n
  | .tup ds, v, F, n, h => by
    simp only [Rq] at h
    obtain ⟨a, vs, e, q, r⟩ := h
    obtain ⟨e2, r2⟩ := Rqs.plain (by simpa only [nomy] using n) r
    exact ⟨e2, by simp only [Rp]; exact ⟨a, vs, e, q, r2⟩⟩
  | .non, v, F, n, h => by simp only [Rq] at h; simp only [Rp]; exact h
  | .bl b, v, F, n, h => by simp only [Rq] at h; simp only [Rp]; exact h
  | .int i, v, F, n, h => by simp only [Rq] at h; simp only [Rp]; exact h
  | .str s, v, F, n, h => by simp only [Rq] at h; simp only [Rp]; exact h
  | .lst ds, v, F, n, h => by simp only [Rq] at h; exact h
  | .dk ks ds, v, F, n, h => by simp only [Rq] at h; exact h
  | .dt ks ds, v, F, n, h => by simp only [Rq] at h; exact h
  | .obj c ns ds, v, F, n, h => by simp only [Rq] at h; exact h
  | .scr ns, v, F, n, h => by simp only [Rq] at h; exact h
  | .dn m, v, F, n, h => by simp only [Rq] at h; exact h
theorem Rqs.plain {K : Fg} {S H : Hp} : ∀ {ds : List D} {vs : List V} {F : List Addr}, nomys ds = true → Rqs K S H ds vs F → F = [] ∧ Rps K S ds vs
  | [], vs, F, n, h => by simp only [Rqs] at h; simp only [Rps]; exact ⟨h.2, h.1⟩
  | d :: ds, vs, F, n, h => by
    simp only [Rqs] at h
    obtain ⟨v, r, F1, F2, e1, e2, q, z⟩ := h
    simp only [nomys, Bool.and_eq_true] at n
    obtain ⟨f1, r1⟩ := Rq.plain n.1 q
    obtain ⟨f2, r2⟩ := Rqs.plain n.2 z
    refine ⟨by rw [e2, f1, f2]; rfl, ?_⟩
    simp only [Rps]
    exact ⟨v, r, e1, r1, r2⟩
end
section
variable {K : Fg} {κ : Kp} {W : WX} {ρ : Rho} {Wo : Addr → Prop} {σ : L2.St} {H H' : Hp}
/-! ### a call -/
theorem EvN.fr {r : R D} {Q : VK} (f : Fr Wo H H') (h : EvN K κ W Wo σ H r Q) : EvN K κ W Wo σ H' r Q := by
  cases r with
  | ok d ρ1 =>
    intro v F H2 f2 nd n0 rel rq
    refine h v F H2 (f.trans f2) nd (fun a m => ?_) rel rq
    cases ha : H a with
    | none => rfl
    | some o =>
      by_cases w : Wo a
      · exact (rel.nx a w (.inr m)).elim
      · have := f a o w ha
        rw [n0 a m] at this; cases this
  | er e ρ1 => exact fun c d H2 f2 rel x => h c d H2 (f.trans f2) rel x
  | st => exact h
variable {ks : List Kd} {as : List ArgR} {vs : List V} {n : Nat} {g : M Fl}
end
section
variable {X : Cx} {κ : Kp} {W : WX} {k n : Nat} {f : Addr} {ps : List Str} {ks : List Kd} {g : M Fl} {x : Str} {p pos : Pos} {e : Expr} {es : List Expr} {fa : M (List ArgR)}
end
/-! ### x[k].append(e) -/
section
variable {X : Cx} {κ : Kp} {W : WX} {f : M D} {e : Expr} {x : Str} {p spos apos cpos pos : Pos}
end
end Qy

set_option Elab.async false
set_option linter.all false
set_option maxRecDepth 100000
/-! Q65: list(d.keys()). -/
namespace Qy
open PySem PySem.Spec PySem.Calls L2 PyProof.Rows
section
variable {X : Cx} {κ : Kp} {W : WX} {td : TE} {e : Expr} {f : M D} {p pos apos cpos : Pos}
end
end Qy

set_option Elab.async false
set_option linter.all false
set_option maxRecDepth 100000
/-! Q66: defs called within an except suite that neither raise nor loop there. -/
namespace Qy
open PySem PySem.Spec PySem.Calls L2 PyProof.Rows
open L2H (RoomH PinOk cxH inv_startH)
section
variable {X : Cx} {κ : Kp} {W : WX} {k n : Nat} {f : Addr} {fd : FuncData} {ps : List Str} {ks : List Kd} {g : M Fl} {x : Str} {p pos : Pos} {e : Expr} {es : List Expr} {fa : M (List ArgR)} {sp : Sp} {t : TA} {E : L2.St → XK}
end
end Qy

set_option Elab.async false
set_option linter.all false
set_option maxRecDepth 100000
/-! Q67: bool(x). -/
namespace Qy
open PySem PySem.Spec PySem.Calls L2 PyProof.Rows
section
variable {X : Cx} {κ : Kp} {W : WX} {a : Expr} {p pos : Pos}
end
end Qy

set_option Elab.async false
set_option linter.all false
set_option maxRecDepth 100000
/-! Q68: x[k].clear(). -/
namespace Qy
open PySem PySem.Spec PySem.Calls L2 PyProof.Rows
section
variable {X : Cx} {κ : Kp} {W : WX} {x : Str} {p spos apos cpos pos : Pos}
end
end Qy

set_option Elab.async false
set_option linter.all false
set_option maxRecDepth 100000
/-! Q69: min(xs) of a list of alike things. -/
namespace Qy
open PySem PySem.Spec PySem.Calls L2 PyProof.Rows
section
variable {prog : Program} {w : World} {A : Around} {R : Result → Shared → Prop} {I : Addr} {fp wr : List Addr} {n : Nat} {P : Nat → Value → Prop} {St : Nat → Heap → Prop}
end
section
variable {prog : Program} {w : World} {A : Around} {E : Value → Shared → Prop} {s : Shared} {l : Addr} {its : List Value} {ds : List PyData} {Q : Value → Shared → Prop}
end
/-! the rule -/
section
variable {X : Cx} {κ : Kp} {W : WX} {a : Expr} {f : M D} {p pos : Pos}
end
end Qy

set_option Elab.async false
set_option linter.all false
set_option maxRecDepth 100000
/-! Q70: sorted(d) of a dict with names as keys. -/
namespace Qy
open PySem PySem.Spec PySem.Calls L2 PyProof.Rows
section
variable {X : Cx} {κ : Kp} {W : WX} {a : Expr} {f : M D} {p pos : Pos}
end
end Qy

set_option Elab.async false
set_option linter.all false
set_option maxRecDepth 100000
/-! Q71: methods of an instance of one's own. -/
namespace Qy
open PySem PySem.Spec PySem.Calls L2 PyProof.Rows
section
variable {X : Cx} {κ : Kp} {W : WX} {k n : Nat} {f C : Addr} {fd : FuncData} {ps : List Str} {ks : List Kd} {g : M Fl} {m c : Str} {x : Str} {p pos apos : Pos} {o e a : Expr} {es : List Expr} {fa : M (List ArgR)} {fe : M D}
end
end Qy

set_option Elab.async false
set_option linter.all false
set_option maxRecDepth 100000
/-! Q72: an instance of one's own: called, its length, a property. -/
namespace Qy
open PySem PySem.Spec PySem.Calls L2 PyProof.Rows
section
variable {M : Model} {A : Around} {E : Value → Shared → Prop} {s : Shared} {K : Fg} {env : Env} {pos : Pos} {x C : Addr} {first : List Value} {Q : Value → Shared → Prop}
end
section
variable {X : Cx} {κ : Kp} {W : WX} {k n : Nat} {f C : Addr} {fd : FuncData} {ps : List Str} {ks : List Kd} {g : M Fl} {m c : Str} {x : Str} {p p2 pos apos : Pos} {o e a : Expr} {es : List Expr} {fa : M (List ArgR)} {fe : M D} {i : Nat} {sp : Sp} {t : TA}
end
end Qy

set_option Elab.async false
set_option linter.all false
set_option maxRecDepth 100000
/-! Q73: x[y] and `y in x` as a value, x an instance of one's own. -/
namespace Qy
open PySem PySem.Spec PySem.Calls L2 PyProof.Rows
section
variable {X : Cx} {κ : Kp} {W : WX} {k n : Nat} {f : Addr} {ps : List Str} {ks : List Kd} {g : M Fl} {x : Str} {p pos : Pos} {a b : Expr} {fe : M D}
end
end Qy

set_option Elab.async false
set_option linter.all false
set_option maxRecDepth 100000
/-! Q74: a new list made while all is frozen; x.pop(0); a property of an instance of one's own; a method's new list. -/
namespace Qy
open PySem PySem.Spec PySem.Calls L2 PyProof.Rows
section
variable {X : Cx} {κ : Kp} {W : WX} {e : Expr} {f : M D}
end
/-! ### x.pop(0) -/
section
variable {X : Cx} {κ : Kp} {W : WX} {x : Str} {p cpos apos ipos : Pos} {j : Nat}
end
end Qy

set_option Elab.async false
set_option linter.all false
set_option maxRecDepth 100000
/-! Q75: x.insert(i, y). -/
namespace Qy
open PySem PySem.Spec PySem.Calls L2 PyProof.Rows
section
variable {X : Cx} {κ : Kp} {W : WX} {x : Str} {p cpos apos pos : Pos} {e1 e2 : Expr} {f1 f2 : M D}
end
section
variable {X : Cx} {κ : Kp} {W : WX} {pos : Pos} {tg iter : Expr} {ifs : List Expr} {scope : Scope} {own : List (Str × Nat)} {fi : M (List D)} {gt : D → M Unit} {tt : M Bool} {ρ : Rho} {Wo : Addr → Prop} {σ : L2.St} {H : Hp}
end
end Qy

set_option Elab.async false
set_option linter.all false
set_option maxRecDepth 100000
/-! Q76: x.extend(t), t a tuple. -/
namespace PySem
open PySem Spec Calls PyProof.Rows
end PySem
namespace Qy
open PySem PySem.Spec PySem.Calls L2 PyProof.Rows
section
variable {X : Cx} {κ : Kp} {W : WX} {x : Str} {p cpos apos pos : Pos} {e : Expr} {f1 : M D}
end
end Qy

set_option Elab.async false
set_option linter.all false
set_option maxRecDepth 100000
/-! Q77: x in ts, ts a list of tuples of texts, x a dict or a tuple with a dict. -/
namespace PySem.SeqAt
open PySem MeetsSeq PyProof.Rows
section
variable {prog : Program} {w : World} {A : Around} {E : Value → Shared → Prop} {s : Shared}
end
section
variable {A : Around} {s : Shared} {b : Addr} {o : Obj} {es : Array DictEntry} {ep : Nat}
end
end PySem.SeqAt
namespace Qy
open PySem PySem.Spec PySem.Calls L2 PyProof.Rows
def DkV (H : Hp) (v : V) : Prop := ∃ a kvs, v = .ref a ∧ Rd H a (.dK kvs)
section
variable {X : Cx} {pins : List (Addr × Obj)} {σ : L2.St} {H : Hp} {s : Shared}
theorem DkV.obj (I : Inv X pins σ H s) {a : Addr} {kvs : List (Key × V)} (h : Rd H a (.dK kvs)) : ∃ o es ep, s.heap.get? a = some o ∧ o.cls = .type "dict" ∧ o.data = .dict es ep := by
  obtain ⟨_, _, vs, _, o, es, ep, e, x, d, _⟩ := h.ok I.hok
  exact ⟨o, es, _, e, x.1, d⟩
end
/-! ### the data side -/
end Qy

set_option Elab.async false
set_option linter.all false
set_option maxRecDepth 100000
/-! Q78: x[k].clear() of a dict; a deep name handed back. -/
namespace Qy
open PySem PySem.Spec PySem.Calls L2 PyProof.Rows
section
variable {K : Fg} {κ : Kp} {W : WX} {ρ : Rho} {Wo : Addr → Prop} {σ : L2.St} {H H' : Hp}
end
section
variable {X : Cx} {κ : Kp} {W : WX} {x : Str} {p spos apos cpos pos : Pos}
end
end Qy

set_option Elab.async false
set_option linter.all false
set_option maxRecDepth 100000
/-! Q79: a for over enumerate of a list of one's own that the body does not change; it may raise. -/
namespace Qy
open PySem PySem.Spec PySem.Calls L2 PyProof.Rows
section
variable {X : Cx} {κ : Kp} {W : WX} {K : Fg} {Wo : Addr → Prop} {σ : L2.St} {H : Hp} {ρ : Rho}
end
end Qy

set_option Elab.async false
set_option linter.all false
set_option maxRecDepth 100000
/-! Q80: a def whose last parameter is given by its name alone; x[k].reverse(). -/
namespace Qy
open PySem PySem.Spec PySem.Calls L2 PyProof.Rows
structure FnPK (P : Program) (w : World) (K : Fg) (mg : Str → Option Value) (base : Heap) (k : Nat) (f : Addr) (ps : List Str) (y : Str) (ks : List Kd) (n : Nat) (g : M Fl) : Prop where
  ex : ∃ fd, KBn K fd ps (ps.length - 1) [y] (fun us ws => us ++ ws) (fun vs zs => vs ++ zs) ∧ PySem.W.keepIn K (.ref f) = true ∧ FnQ P w K mg base k f fd ps ks n g
theorem FnPK.mono {P : Program} {w : World} {K : Fg} {mg : Str → Option Value} {base : Heap} {j k : Nat} {f : Addr} {ps : List Str} {y : Str} {ks : List Kd} {n : Nat} {g : M Fl} (F : FnPK P w K mg base j f ps y ks n g) (h : j ≤ k) : FnPK P w K mg base k f ps y ks n g :=
  let ⟨fd, a, b, c⟩ := F.ex; ⟨fd, a, b, c.mono h⟩
section
variable {X : Cx} {CX : CXT} {κ : Kp} {W : WX} {k n m : Nat} {f : Addr} {fd : FuncData} {ps : List Str} {ks : List Kd} {g : M Fl} {x y : Str} {p pos kpos : Pos} {e e2 : Expr} {es : List Expr} {fa : M (List ArgR)} {fk : M D} {sp : Sp} {t tk : TA}
end
/-! ### x[k].reverse() -/
section
variable {X : Cx} {κ : Kp} {W : WX} {x : Str} {p spos apos cpos pos : Pos}
end
end Qy

set_option Elab.async false
set_option linter.all false
set_option maxRecDepth 100000
/-! Q81: a dict of new lists: made at once, one by one, and its lists changed. -/
namespace Qy
open PySem PySem.Spec PySem.Calls L2 PyProof.Rows
section
variable {K : Fg} {κ : Kp} {ρ : Rho} {Wo : Addr → Prop} {σ : L2.St} {H H' : Hp} {N : Addr → Prop} {F : List Addr}
end
section
variable {X : Cx} {κ : Kp} {W : WX} {K : Fg} {Wo : Addr → Prop} {σ : L2.St} {H : Hp} {ρ : Rho} {tg iter kx : Expr} {scope : Scope} {own : List (Str × Nat)} {pos lpos : Pos} {fi : M (List D)} {gt : D → M Unit} {fk : M D}
theorem EvN.bindI {α : Type} {r : Qy.R α} {k : α → M D} {Q : VK} (h : EvN K κ W Wo σ H (r.bind k) Q) : True := trivial
end
/-! ### a thing of a deep slot changes -/
section
variable {K : Fg} {κ : Kp} {W : WX} {ρ : Rho} {Wo : Addr → Prop} {σ : L2.St} {H H' : Hp}
end
end Qy

set_option Elab.async false
set_option linter.all false
set_option maxRecDepth 100000
/-! Q83: a property of an instance of one's own. -/
namespace Qy
open PySem PySem.Spec PySem.Calls L2 PyProof.Rows
section
variable {P : Program} {fa : List He.Fa} {fn : List He.DefD} {ex : List ExD} {fb : List Fb} {fq : List Fp} {fp : List He5.DefA} {K : Fg}
theorem SaysP.r (c : SaysP P fa fn ex fb fq fp K) : SaysR P fa fn ex fb K := congrArg Prod.fst c
theorem SaysP.fact (c : SaysP P fa fn ex fb fq fp K) (i : Nat) {f : He.Fa} (h : fa[i]? = some f := by rfl) : f.ok K = true := c.r.fact i h
theorem SaysP.def_ (c : SaysP P fa fn ex fb fq fp K) (i : Nat) {d : He.DefD} (h : fn[i]? = some d := by rfl) : ∃ fd, FunD K d.name d.qual d.params d.body d.scope (d.dvs K) (d.kws K) (He.fAd K d.at_) fd := c.r.def_ i h
theorem SaysP.exc (c : SaysP P fa fn ex fb fq fp K) (i : Nat) {d : ExD} (h : ex[i]? = some d := by rfl) : (∃ fd cc cda, ExI P K d.name d.qual d.params d.body d.scope (He.ga K d.cn) (exF K d.cn) cc cda fd) ∧ XfC K (He.ga K d.cn) := c.r.exc i h
theorem SaysP.more (c : SaysP P fa fn ex fb fq fp K) (i : Nat) {f : Fb} (h : fb[i]? = some f := by rfl) : f.ok K = true := c.r.more i h
theorem SaysP.b (c : SaysP P fa fn ex fb fq fp K) : (fq.all fun f => f.ok K) = true ∧ (fp.all fun d => d.ok K) = true := He.ba (show ((fq.all fun f => f.ok K) && fp.all fun d => d.ok K) = true from congrArg (fun z : AlP => z.2.1) c)
theorem SaysP.prop (c : SaysP P fa fn ex fb fq fp K) (i : Nat) {f : Fp} (h : fq[i]? = some f := by rfl) : f.ok K = true := List.all_eq_true.mp c.b.1 f (List.mem_of_getElem? h)
theorem SaysP.gdef (c : SaysP P fa fn ex fb fq fp K) (i : Nat) {d : He5.DefA} (h : fp[i]? = some d := by rfl) : ∃ fd, FunD K d.name d.qual d.params d.body d.scope (d.dvs K) (d.kws K) (d.at_ K) fd := by
  have e : fp.map (fun d => He5.fnA K (d.at_ K)) = fp.map He5.DefA.val := congrArg (fun z : AlP => z.2.2) c
  have e2 : (fp.map fun d => He5.fnA K (d.at_ K))[i]? = (fp.map He5.DefA.val)[i]? := by rw [e]
  rw [List.getElem?_map, List.getElem?_map, h] at e2
  exact He5.DefA.funD (Option.some.inj e2) (List.all_eq_true.mp c.b.2 d (List.mem_of_getElem? h))
end
/-- nothing is raised -/
def W0 : WX := fun _ _ _ _ => False
section
variable {X : Cx} {κ : Kp} {W : WX} {k n : Nat} {f C p : Addr} {fd : FuncData} {ps : List Str} {ks : List Kd} {g : M Fl} {m c : Str} {x : Str} {pos p2 : Pos} {i : Nat} {sp : Sp}
end
end Qy

set_option Elab.async false
set_option linter.all false
set_option maxRecDepth 100000
/-! Q123: a classmethod called through its class; the class called by its parameter's name. -/
namespace Qy
open PySem PySem.Spec PySem.Calls L2 PyProof.Rows
/-- the callee's slots: the class, the arguments -/
def rhoC (c : Str) (ks : List Kd) (ds : List D) (n : Nat) : Rho := .xc (.obj c [] []) :: rho0 ks ds n
def kapC (κ : Kp) (C : Addr) : Kp := { κ with xa := C, xd := (.ref C, none) }
section
variable {K : Fg} {κ : Kp} {W : WX} {ρ ρ' : Rho} {Wo W' : Addr → Prop} {σ σ' : L2.St} {H H' : Hp} {c : Str} {as : List ArgR} {vs : List V} {ks : List Kd} {ds : List D} {n : Nat}
/-- one slot ahead: the class -/
theorem Rel.cls (r : Rel K κ ρ Wo σ H) (nx : ∀ (i : Nat) (d : D), ρ[i]? ≠ some (.xc d)) (c : Str) : Rel K (kapC κ (He.ga K c)) (.xc (.obj c [] []) :: ρ) Wo (some (.ref (He.ga K c)) :: σ) H := by
  have hd : ∀ {i : Nat} {s : Slot}, (Slot.xc (.obj c [] []) :: ρ)[i]? = some s → (i = 0 ∧ s = .xc (.obj c [] [])) ∨ ∃ j, i = j + 1 ∧ ρ[j]? = some s := fun {i s} h => by
    cases i with
    | zero => exact .inl ⟨rfl, (Option.some.inj (by simpa using h)).symm⟩
    | succ j => exact .inr ⟨j, rfl, by simpa using h⟩
  obtain ⟨Fp, DD⟩ := r.dp
  exact {
    len := by simp [r.len]
    sh := fun i d h => by
      rcases hd h with ⟨_, z⟩ | ⟨j, rfl, h⟩
      · cases z
      · exact r.sh j d h
    ow := fun i t d h => by
      rcases hd h with ⟨_, z⟩ | ⟨j, rfl, h⟩
      · cases z
      · exact r.ow j t d h
    dj := fun i j t t' d d' l h1 h2 h3 h4 => by
      rcases hd h1 with ⟨_, z⟩ | ⟨i, rfl, h1⟩
      · cases z
      rcases hd h2 with ⟨_, z⟩ | ⟨j, rfl, h2⟩
      · cases z
      rw [r.dj i j t t' d d' l h1 h2 (by simpa using h3) (by simpa using h4)]
    bw := fun i d h => by
      rcases hd h with ⟨_, z⟩ | ⟨j, rfl, h⟩
      · cases z
      · exact r.bw j d h
    bo := r.bo
    bd := r.bd
    bn := r.bn
    ht := r.ht
    nx := r.nx
    tu := r.tu
    xc := fun i d h => by
      rcases hd h with ⟨rfl, z⟩ | ⟨j, rfl, h⟩
      · cases z
        exact ⟨rfl, rfl, .inl rfl⟩
      · exact (nx j d h).elim
    dp := ⟨fun i => Fp (i - 1), ⟨fun i t d h => by
      rcases hd h with ⟨_, z⟩ | ⟨j, rfl, h⟩
      · cases z
      · exact DD.at_ j t d h, fun i j t t' d d' ne h1 h2 => by
      rcases hd h1 with ⟨_, z⟩ | ⟨i, rfl, h1⟩
      · cases z
      rcases hd h2 with ⟨_, z⟩ | ⟨j, rfl, h2⟩
      · cases z
      exact DD.dd i j t t' d d' (fun z => ne (by rw [z])) h1 h2, fun i j t t' d d' l h1 h2 h3 => by
      rcases hd h1 with ⟨_, z⟩ | ⟨i, rfl, h1⟩
      · cases z
      rcases hd h2 with ⟨_, z⟩ | ⟨j, rfl, h2⟩
      · cases z
      exact DD.dw i j t t' d d' l h1 h2 (by simpa using h3)⟩⟩ }
theorem rho1_xc : ∀ {ks : List Kd} {m : Nat} {ds : List D} (i : Nat) (d : D), (rho1 m ks ds)[i]? ≠ some (.xc d)
  | [], m, ds, i, d => by simp [rho1]
  | k :: ks, m, [], i, d => by cases k <;> simp [rho1]
  | k :: ks, m, e :: ds, i, d => by
    cases i with
    | zero => cases k <;> simp [rho1]
    | succ i =>
      have := rho1_xc (ks := ks) (m := m + 1) (ds := ds) i d
      cases k <;> simpa [rho1] using this
theorem rho0_xc (i : Nat) (d : D) : (rho0 ks ds n)[i]? ≠ some (.xc d) := by
  unfold rho0
  rw [List.getElem?_append]
  split
  · exact rho1_xc i d
  · rw [List.getElem?_replicate]
    split
    · exact fun z => nomatch z
    · exact fun z => nomatch z
/-- what a classmethod promises -/
def SpC (K : Fg) (c : Str) (ks : List Kd) (n m : Nat) (g : M Fl) : Sp := fun vs H Q E => ∃ us, vs = .ref (He.ga K c) :: us ∧ vs.length = m ∧ ∃ κ Wo ds, κ.xa = He.ga K c ∧ Rel K κ (rhoC c ks ds n) Wo (vs.map some ++ List.replicate n none) H ∧ EvS K κ (fun cls dd _ H => E cls dd H) Wo H (g (rhoC c ks ds n)) (endsOf Q)
def cmF (c : Str) (ks : List Kd) (n : Nat) (g : M Fl) (as : List ArgR) : M D := fun ρ => if okA ks as = true ∧ ks.contains .io = false then (match argDs ρ ks as with
    | none => .st
    | some ds => (match g (rhoC c ks ds n) with
      | .ok (.rf d) _ => .ok d ρ
      | .er e _ => .er e ρ
      | _ => .st))
  else .st
/-- C.m(..), a new thing -/
def gCmF (c : Str) (ks : List Kd) (n : Nat) (g : M Fl) (fa : M (List ArgR)) : M D := bnd fa (cmF c ks n g)
theorem cm_core {Q : VK} {m : Nat} {g : M Fl} (hm : vs.length + 1 = m) (r : Rel K κ ρ Wo σ H) (ok : ArgsOk K σ (vw κ Wo H) as vs) (q : EvF K κ W Wo σ H (cmF c ks n g as ρ) Q) : SpC K c ks n m g (.ref (He.ga K c) :: vs) H Q (WE W σ) := by
  unfold cmF at q
  split at q
  · rename_i ho
    obtain ⟨ho, hio⟩ := ho
    cases hd : argDs ρ ks as with
    | none => rw [hd] at q; exact q.elim
    | some ds =>
      rw [hd] at q
      refine ⟨vs, rfl, hm, kapC (callK κ Wo H ks vs) (He.ga K c), _, ds, rfl, (r.into hd ok ho).cls (fun i d => rho0_xc i d) c, ?_⟩
      cases hg : g (rhoC c ks ds n) with
      | st => simp only [hg] at q; exact q.elim
      | er e ρ' =>
        simp only [hg] at q
        intro cls dd σ' H' W' p r' x
        obtain ⟨_, sm, r1, _, or⟩ := new_out (F := []) r hio p (fun a z => nomatch z)
        exact q cls dd H' (Fr.same sm) r1 (Xd.mono or x)
      | ok fl ρ' =>
        simp only [hg] at q
        intro σ' H' W' p r'
        cases fl with
        | rf d =>
          intro a o w e cn
          obtain ⟨ha, sm, r1, c1⟩ := call_new r hio p w e cn
          exact q a o (cut H' a) H' (Fr.same sm) r1 cut_at cut_same e c1
        | _ => exact q.elim
  · exact q.elim
theorem cmF_len {g : M Fl} (h : cmF c ks n g as ρ ≠ .st) : as.length = ks.length := by
  unfold cmF at h
  split at h
  · cases hd : argDs ρ ks as with
    | none => rw [hd] at h; exact (h rfl).elim
    | some ds => exact (argDs_len hd).symm
  · exact (h rfl).elim
end
/-- a classmethod's def -/
structure FnCm (P : Program) (w : World) (K : Fg) (mg : Str → Option Value) (base : Heap) (k : Nat) (f : Addr) (c : Str) (ps : List Str) (ks : List Kd) (n : Nat) (g : M Fl) : Prop where
  ex : ∃ fd, Binds K fd ps [] ∧ PySem.W.keepIn K (.ref f) = true ∧ FnOk P w K mg base (L2.CX P w) k f fd ps (SpC K c ks n ps.length g)
theorem fnc_of {P : Program} {w : World} {K : Fg} {mg : Str → Option Value} {base : Heap} {k n : Nat} {f : Addr} {x qual c : Str} {params : Arguments} {body : List Stmt} {scope : Scope} {N ps : List Str} {ks : List Kd} {g : M Fl}
    (F : ∃ fd, FunD K x qual params body scope [] [] f fd) (hs : C8.scC N ps scope = true) (hn : N.length - ps.length = n)
    (hbind : ∀ (kV doc pm : Value) (an : Option Addr) (cdv ct : Value) (us : List Value), us.length = ps.length → bindArgs (PySem.W.fnOf x qual params body scope .none kV doc pm an cdv ct) ⟨us, []⟩ = pure (ps.zip us))
    (hb : ∀ (cd : Value) (A : Around) (outer : List Env) (s : Shared) (H : Hp) (E : XK) (κ : Kp), κ.xa = He.ga K c → Room k (A.deeper (envOfC qual scope s.heap.objs.size f cd)) → N.Nodup → QSs (cxB P w K mg base N qual scope f cd A outer s H E) κ (WB E) body g) : FnCm P w K mg base (k + 1) f c ps ks n g := by
  obtain ⟨fd, F⟩ := F
  refine ⟨fd, ?_, F.kp, ?_⟩
  · obtain ⟨oc, od, dV, kV, doc, pm, an, cdv, ct, osl, rfl, lk, hcd, hD, _⟩ := F.ex
    rcases hD with ⟨_, e⟩ | ⟨h, _⟩
    · subst e; exact fun s us _ hl => Binds.all (hbind kV doc pm an cdv ct) s us nil_in hl
    · exact (h rfl).elim
  · exact FunD.ok F (C8.fnScope_by hs) (fun _ _ _ _ h => by obtain ⟨_, _, h, _⟩ := h; exact h) fun cd A outer s H vs Q E hr ⟨us, e, hl, κ, Wo, ds, hκ, rel, q⟩ => ⟨_, hb cd A outer s H E κ hκ hr (C8.fnScope_by hs).nd, rhoC c ks ds n, Wo, by
      unfold L2.start
      rw [hl, hn]
      exact rel, q⟩
section
variable {X : Cx} {κ : Kp} {W : WX} {k n : Nat} {f p C fI : Addr} {fd : FuncData} {ps : List Str} {ks : List Kd} {g : M Fl} {x m c : Str} {p0 pos apos : Pos} {e o : Expr} {es : List Expr} {fa : M (List ArgR)} {t : TA} {sp : Sp} {mc : Value}
theorem run_cmS {σ : L2.St} {H : Hp} {s : Shared} {pins : List (Addr × Obj)} {CX : CXT} {q : Addr} {E : XK} {Q : VK} {us : List Value} {vs : List V} (F : FnR X.prog X.w X.K X.mg X.base CX k f sp) (hr : Room k X.A) (hx : PassesAt CX X σ E) (I : Inv X ((q, PySem.W.methodObj (.ref f) (.ref C)) :: pins) σ H s)
    (r : Vals vs us) (h : sp (.ref C :: vs) H Q E) : wpAny (model X.prog X.w) X.A (call (.ref q) us) (EP X pins σ Q) X.xe s := by
  have z : wpAny (model X.prog X.w) X.A (call (.ref q) us) (EP X ((q, PySem.W.methodObj (.ref f) (.ref C)) :: pins) σ Q) X.xe s := by
    refine wpAny_call (PySem.W.method_call (ClX.pin_at I) ?_)
    refine codeAny_mono (F X.A X.stack s H (.ref C :: us) (.ref C :: vs) Q E hr I.env0 (.cons rfl r) h) fun y s' hq => ?_
    cases y with
    | error e => exact hx _ H s e s' I hq
    | ok fl =>
      cases fl with
      | ret u => exact I.after hq
      | next => exact False.elim hq
      | brk => exact False.elim hq
      | cont => exact False.elim hq
  exact thn z fun _ _ y => ClX.unpinE y
def tCmW (C : Addr) (sp : Sp) (W : WX) (t : TA) : TE := fun σ H Q => t σ H fun vs H2 => sp (.ref C :: vs) H2 Q (WE W σ)
theorem pe_cmW {CX : CXT} (hg : Gl X x) (hm : X.mg x = some (.ref C)) (r : ClX.CRead X.K C mc) (c : ClX.CMet X.K C mc m p f) (F : FnR X.prog X.w X.K X.mg X.base (L2.CX X.prog X.w) k f sp) (hr : Room k X.A) (tk : Takes X W) (ha : PA X (e :: es) t)
    (hdb : (x == ("__debug__" : Str)) = false) (hst : starEach (e :: es) X.env = (false, eval e X.env) :: starEach es X.env) (hpl : (backTo pos (starEach es X.env)).any (·.1) = false) {pl : Sem Bool}
    (ht : eval (.Call (.Attribute (.Name x p0) m apos) (e :: es) [] pos) X.env = (do
      let ov ← eval (.Name x p0) X.env
      standAt apos.atName
      let (f, first) ← holding [ov] (getMethod ov m pl)
      callWith pos f first (backTo pos (starEach (e :: es) X.env)) (backToKw pos (keywordEach [] X.env)))) :
    PE X (.Call (.Attribute (.Name x p0) m apos) (e :: es) [] pos) (tCmW C sp W t) := by
  refine ⟨fun pins s σ H Q I h => ?_⟩
  refine PySem.W.methodCall_KW (pl := pl) (ld_glob I hg hm ?_ hdb) ht
  refine ClX.getmethcm_ok I r c fun s2 I2 => ?_
  refine ClX.callwith_cm I2 (ClX.base_none I (Nat.le_refl _)) c.fi (thn (ha.run pos _ s2 σ H _ I2 h) fun us s3 ⟨vs, H2, I3, rv, q2⟩ => ⟨⟨ClX.pin_at I3, I3.kIn⟩, ?_⟩) hst hpl
  exact run_cmS F hr (passAt tk σ) I3 rv q2
theorem qf_cmeth (c : Str) (r : ClX.CRead X.K (He.ga X.K c) mc) (cm : ClX.CMet X.K (He.ga X.K c) mc m p f) (F : FnCm X.prog X.w X.K X.mg X.base k f c ps ks n g) (hr : Room k X.A) (hm : X.mg x = some (.ref (He.ga X.K c))) (tk : Takes X W) (ha : QA X κ W (e :: es) fa) (hl : ks.length + 1 = ps.length := by rfl)
    (hg : Gl X x := by rfl) (hdb : (x == ("__debug__" : Str)) = false := by decide) (he : starEach (e :: es) X.env = (false, eval e X.env) :: starEach es X.env := by rfl) (hpl : (backTo pos (starEach es X.env)).any (·.1) = false := by rfl) {pl : Sem Bool}
    (ht : eval (.Call (.Attribute (.Name x p0) m apos) (e :: es) [] pos) X.env = (do
      let ov ← eval (.Name x p0) X.env
      standAt apos.atName
      let (f, first) ← holding [ov] (getMethod ov m pl)
      callWith pos f first (backTo pos (starEach (e :: es) X.env)) (backToKw pos (keywordEach [] X.env))) := by rfl) :
    QF X κ W (.Call (.Attribute (.Name x p0) m apos) (e :: es) [] pos) (gCmF c ks n g fa) := by
  obtain ⟨fd, b, kp, F⟩ := F.ex
  refine PE.imp (pe_cmW (CX := L2.CX X.prog X.w) hg hm r cm ((FnOk.raw (ds := []) (dvs := []) F b .nil).imp fun vs H Q E z => by rw [List.append_nil]; exact z) hr tk ha hdb he hpl ht) fun σ H Q ⟨ρ, Wo, rel, q⟩ => ?_
  refine ⟨ρ, Wo, rel, (EvG.bindF q).imp fun vs H1 ⟨as, ρ1, fr, r1, ok, q1⟩ => ?_⟩
  have h : cmF c ks n g as ρ1 ≠ .st := fun z => by rw [z] at q1; exact q1
  exact cm_core (by rw [← (ok.at).1, cmF_len h, hl]) r1 ok q1
/-! ### the class by its parameter's name -/
def tMakeS (i : Nat) (C : Addr) (sp : Sp) (W : WX) (t : TA) : TE := fun σ H Q => σ[i]? = some (some (.ref C)) ∧ tMakeQ C sp W t σ H Q
theorem pe_makeS {i : Nat} (M : Mk X.K C f) (F : FnOk X.prog X.w X.K X.mg X.base (L2.CX X.prog X.w) k f fd ps sp) (hr : Room (k + 1) X.A) (hN : X.N[i]? = some x) (hv : Vis X.env.scope x) (hb : Binds X.K fd ps []) (tk : Takes X W)
    (ha : PA X (e :: es) t) (hdb : (x == ("__debug__" : Str)) = false) (hcd : (x == ("__classdict__" : Str)) = false) (he : starEach (e :: es) X.env = (false, eval e X.env) :: starEach es X.env) (hpl : (backTo pos (starEach es X.env)).any (·.1) = false) :
    PE X (.Call (.Name x p0) (e :: es) [] pos) (tMakeS i C sp W t) := by
  refine ⟨fun pins s σ H Q I h => ?_⟩
  refine wpAny_Call_Name_kw (thn ((pe_var (pos := p0) hN hv hdb hcd).run pins s σ H (fun v H1 => v = .ref C ∧ H1 = H) I ⟨.ref C, h.1, rfl, rfl⟩) fun u s0 ⟨v, H0, I0, r0, q0⟩ => ?_)
  obtain ⟨rfl, rfl⟩ := q0
  obtain rfl : u = Value.ref C := r0
  refine PySem.W.callWith_K (h₀ := X.base) I0.ok.mod.kin M.kp (thn (ha.run pos pins s0 σ H0 _ I0 h.2) fun us s1 ⟨vs, H1, I1, r, q⟩ => ⟨I1.kIn, ?_⟩) he hpl
  exact run_makeQ M F hr hb (passAt tk σ) I1 r q
/-- cls(..), cls the class -/
def gMakeS (c : Str) (i : Nat) (ks : List Kd) (n : Nat) (g : M Fl) (fa : M (List ArgR)) : M D := fun ρ => match ρ[i]? with
  | some (.xc _) => gMake c ks n g fa ρ
  | _ => .st
theorem qf_makeS (c : Str) (i : Nat) (hκ : κ.xa = He.ga X.K c) (M : Mk X.K (He.ga X.K c) f) (F : FnP X.prog X.w X.K X.mg X.base k f ps (.io :: ks) n g) (hr : Room (k + 1) X.A) (tk : Takes X W) (ha : QA X κ W (e :: es) fa) (hN : X.N[i]? = some x := by rfl) (hl : ks.length + 1 = ps.length := by rfl)
    (hv : Vis X.env.scope x := by first | exact Or.inl rfl | exact Or.inr (Or.inl rfl) | exact Or.inr (Or.inr rfl)) (hdb : (x == ("__debug__" : Str)) = false := by decide) (hcd : (x == ("__classdict__" : Str)) = false := by decide)
    (he : starEach (e :: es) X.env = (false, eval e X.env) :: starEach es X.env := by rfl) (hpl : (backTo pos (starEach es X.env)).any (·.1) = false := by rfl) :
    QF X κ W (.Call (.Name x p0) (e :: es) [] pos) (gMakeS c i ks n g fa) := by
  obtain ⟨fd, b, _, F, _⟩ := F.ex
  refine PE.imp (pe_makeS (i := i) M F hr hN hv (binds_any b) tk ha hdb hcd he hpl) fun σ H Q ⟨ρ, Wo, rel, q⟩ => ?_
  unfold gMakeS at q
  cases h0 : ρ[i]? with
  | none => rw [h0] at q; exact q.elim
  | some s0 =>
    rw [h0] at q
    cases s0 with
    | xc d =>
      refine ⟨by rw [← hκ]; exact (rel.xc i d h0).1, ρ, Wo, rel, (EvG.bindF q).imp fun vs H1 ⟨as, ρ1, fr, r1, ok, q1⟩ => ?_⟩
      have h : makeD c ks n g as ρ1 ≠ .st := fun z => by rw [z] at q1; exact q1
      exact fun x dx h1 h2 ne => make_core (by rw [← (ok.at).1, makeD_len h, hl]) r1 ok q1 h1 h2 ne
    | _ => exact q.elim
/-! ### the head's facts -/
theorem cread_fp {K : Fg} {x m : Str} (h : (Fp.cmet x m).ok K = true) : ClX.CRead K (He.ga K x) (.type "type") := by
  obtain ⟨_, h⟩ := He.ba h
  obtain ⟨_, h⟩ := He.ba h
  obtain ⟨h3, h4⟩ := He.ba h
  exact ⟨h3, He.eqO_ok h4⟩
theorem cmet_fp {K : Fg} {x m : Str} (h : (Fp.cmet x m).ok K = true) : ClX.CMet K (He.ga K x) (.type "type") m (He.ma K (He.ga K x) m) (gAd K x m "classmethod") := by
  obtain ⟨h1, h⟩ := He.ba h
  obtain ⟨h2, _⟩ := He.ba h
  exact He5.cmet_of h1 h2
end
end Qy

set_option Elab.async false
set_option linter.all false
set_option maxRecDepth 100000
set_option maxHeartbeats 0
/-! M1: plain evaluation lemmas -/
namespace Qy
open PySem PySem.Spec PyProof.Rows
theorem ret_ap {α : Type} (a : α) (ρ : Rho) : ret a ρ = .ok a ρ := rfl
end Qy

set_option Elab.async false
set_option linter.all false
set_option maxRecDepth 100000
set_option maxHeartbeats 0
/-! M2: the meaning functions as rewriting -/
namespace Qy
open PySem PySem.Spec PyProof.Rows
/-- a mark that keeps rewriting out of what comes later -/
abbrev Dm {α : Sort 1} (Q : α) : Type := Unit
/-- what a result satisfies -/
@[irreducible] def Ev {α : Type} (r : Qy.R α) (Q : α → Rho → Prop) (E : D → Rho → Prop) (_ : Dm Q := ()) (_ : Dm E := ()) : Prop := match r with
  | .ok a ρ => Q a ρ
  | .er e ρ => E e ρ
  | .st => False
section
variable {α β : Type} {Q : α → Rho → Prop} {P : β → Rho → Prop} {E : D → Rho → Prop} {ρ : Rho}
@[simp] theorem y_ok (a : α) : Ev (.ok a ρ) Q E = Q a ρ := by unfold Ev; rfl
@[simp] theorem y_er (e : D) : Ev (.er e ρ : Qy.R α) Q E = E e ρ := by unfold Ev; rfl
@[simp] theorem y_st : Ev (.st : Qy.R α) Q E = False := by unfold Ev; rfl
@[simp] theorem y_bind (r : Qy.R α) (k : α → M β) : Ev (r.bind k) P E = Ev r (fun a ρ => Ev (k a ρ) P E) E := by unfold Ev; cases r <;> rfl
@[simp] theorem y_bnd (f : M α) (k : α → M β) : Ev (bnd f k ρ) P E = Ev (f ρ) (fun a ρ => Ev (k a ρ) P E) E := y_bind _ _
@[simp] theorem y_ret (a : α) : Ev (ret a ρ) Q E = Q a ρ := by unfold Ev; rfl
@[simp] theorem y_stuck : Ev ((stuck : M α) ρ) Q E = False := by unfold Ev; rfl
@[simp] theorem y_ofO (a : α) : Ev (ofO (some a) ρ) Q E = Q a ρ := by unfold Ev; rfl
@[simp] theorem y_ofOn : Ev (ofO (none : Option α) ρ) Q E = False := by unfold Ev; rfl
@[simp] theorem y_ite (c : Prop) [Decidable c] (f g : M α) : Ev ((if c then f else g) ρ) Q E = if c then Ev (f ρ) Q E else Ev (g ρ) Q E := by by_cases h : c <;> simp only [h, if_true, if_false]
theorem Ev.mono {r : Qy.R α} {Q' : α → Rho → Prop} {E' : D → Rho → Prop} (h : Ev r Q E) (q : ∀ a ρ, Q a ρ → Q' a ρ) (e : ∀ a ρ, E a ρ → E' a ρ) : Ev r Q' E' := by
  cases r with
  | ok a ρ => unfold Ev; exact q _ _ (by unfold Ev at h; exact h)
  | er a ρ => unfold Ev; exact e _ _ (by unfold Ev at h; exact h)
  | st => unfold Ev at h; exact h.elim
end
def opt {α : Type} (o : Option α) (Q : α → Prop) : Prop := match o with
  | some a => Q a
  | none => False
@[simp] theorem opt_some {α : Type} (a : α) (Q : α → Prop) : opt (some a) Q = Q a := rfl
section
variable {Q : D → Rho → Prop} {T : Bool → Rho → Prop} {F : Fl → Rho → Prop} {As : List ArgR → Rho → Prop} {L : List D → Rho → Prop} {E : D → Rho → Prop} {ρ : Rho}
def shP (o : Option Slot) (Q : D → Prop) (_ : Dm Q := ()) : Prop := match o with
  | some (.sh d) => Q d
  | _ => False
@[simp] theorem shP_sh (d : D) (Q : D → Prop) : shP (some (.sh d)) Q = Q d := rfl
@[simp] theorem y_var (i : Nat) : Ev (gVar i ρ) Q E = shP ρ[i]? (fun d => Q d ρ) := by
  unfold gVar shP Ev; rcases ρ[i]? with _ | s
  · rfl
  · cases s <;> rfl
def anP (o : Option Slot) (Q : D → Prop) (_ : Dm Q := ()) : Prop := match o with
  | some (.sh d) => Q d
  | some (.ow _ d) => Q d
  | some (.bw d) => Q d
  | some (.dp _ d) => Q (strip d)
  | _ => False
@[simp] theorem anP_sh (d : D) (Q : D → Prop) : anP (some (.sh d)) Q = Q d := rfl
@[simp] theorem anP_ow (t : Option Nat) (d : D) (Q : D → Prop) : anP (some (.ow t d)) Q = Q d := rfl
@[simp] theorem anP_bw (d : D) (Q : D → Prop) : anP (some (.bw d)) Q = Q d := rfl
@[simp] theorem anP_dp (t : Option Nat) (d : D) (Q : D → Prop) : anP (some (.dp t d)) Q = Q (strip d) := rfl
@[simp] theorem y_ref (i : Nat) : Ev (gRef i ρ) Q E = anP ρ[i]? (fun d => Q d ρ) := by
  unfold gRef anP Ev; rcases ρ[i]? with _ | s
  · rfl
  · cases s <;> rfl
@[simp] theorem y_bin (g : D → D → Option D) (f1 f2 : M D) : Ev (gBin g f1 f2 ρ) Q E = Ev (f1 ρ) (fun x ρ => Ev (bnd f2 (fun y => ofO (g x y)) ρ) Q E) E := y_bnd _ _
@[simp] theorem y_c1 (g : D → Option D) (f : M D) : Ev (gC1 g f ρ) Q E = Ev (f ρ) (fun x ρ => Ev (ofO (g x) ρ) Q E) E := y_bnd _ _
@[simp] theorem y_ix (f1 f2 : M D) : Ev (gIx f1 f2 ρ) Q E = Ev (f1 ρ) (fun x ρ => Ev (bnd f2 (fun y => ofO (ixD x y)) ρ) Q E) E := y_bnd _ _
@[simp] theorem y_cmp (g : D → D → Option Bool) (f1 f2 : M D) : Ev (gCmp g f1 f2 ρ) Q E = Ev (f1 ρ) (fun x ρ => Ev (bnd f2 (fun y => ofO ((g x y).map D.bl)) ρ) Q E) E := y_bnd _ _
@[simp] theorem y_cmpT (g : D → D → Option Bool) (f1 f2 : M D) : Ev (gCmpT g f1 f2 ρ) T E = Ev (f1 ρ) (fun x ρ => Ev (bnd f2 (fun y => ofO (g x y)) ρ) T E) E := y_bnd _ _
@[simp] theorem y_tru (f : M D) : Ev (gTru f ρ) T E = Ev (f ρ) (fun x ρ => Ev (ofO (truD x) ρ) T E) E := y_bnd _ _
@[simp] theorem y_notT (t : M Bool) : Ev (gNotT t ρ) T E = Ev (t ρ) (fun k ρ => Ev (ret (!k) ρ) T E) E := y_bnd _ _
@[simp] theorem y_andT (t u : M Bool) : Ev (gAndT t u ρ) T E = Ev (t ρ) (fun k ρ => Ev ((if k = true then u else ret false) ρ) T E) E := y_bnd _ _
@[simp] theorem y_orT (t u : M Bool) : Ev (gOrT t u ρ) T E = Ev (t ρ) (fun k ρ => Ev ((if k = true then ret true else u) ρ) T E) E := y_bnd _ _
@[simp] theorem y_if {α : Type} {Q : α → Rho → Prop} (t : M Bool) (f g : M α) : Ev (gIf t f g ρ) Q E = Ev (t ρ) (fun k ρ => Ev ((if k = true then f else g) ρ) Q E) E := y_bnd _ _
def seqP (f : Fl) (a b : Prop) (_ : Dm a := ()) (_ : Dm b := ()) : Prop := match f with
  | .nx => a
  | _ => b
@[simp] theorem sq_nx (a b : Prop) : seqP .nx a b = a := rfl
@[simp] theorem sq_rt (d : D) (a b : Prop) : seqP (.rt d) a b = b := rfl
@[simp] theorem sq_rf (d : D) (a b : Prop) : seqP (.rf d) a b = b := rfl
@[simp] theorem sq_rn (d : D) (a b : Prop) : seqP (.rn d) a b = b := rfl
@[simp] theorem sq_bk (a b : Prop) : seqP .bk a b = b := rfl
@[simp] theorem sq_ct (a b : Prop) : seqP .ct a b = b := rfl
@[simp] theorem y_seq (g1 g2 : M Fl) : Ev (gSeq g1 g2 ρ) F E = Ev (g1 ρ) (fun fl ρ' => seqP fl (Ev (g2 ρ') F E) (F fl ρ')) E := by
  unfold gSeq Ev
  cases g1 ρ with
  | ok fl ρ' => cases fl <;> rfl
  | er _ _ => rfl
  | st => rfl
@[simp] theorem y_skip : Ev (gSkip ρ) F E = F .nx ρ := by unfold Ev; rfl
@[simp] theorem y_put (i : Nat) (d : D) : Ev (gPut i d ρ) F E = F .nx (ρ.set i (.sh d)) := by unfold Ev; rfl
@[simp] theorem y_putO (i : Nat) (d : D) : Ev (gPutO i d ρ) F E = F .nx (ρ.set i (.ow none d)) := by unfold Ev; rfl
@[simp] theorem y_set (i : Nat) (f : M D) : Ev (gSet i f ρ) F E = Ev (f ρ) (fun d ρ => Ev (gPut i d ρ) F E) E := y_bnd _ _
@[simp] theorem y_own (i : Nat) (f : M D) : Ev (gOwn i f ρ) F E = Ev (f ρ) (fun d ρ => Ev (gPutO i d ρ) F E) E := y_bnd _ _
@[simp] theorem y_gret (f : M D) : Ev (gRet f ρ) F E = Ev (f ρ) (fun d ρ => Ev (ret (.rt d) ρ) F E) E := y_bnd _ _
@[simp] theorem y_gretF (f : M D) : Ev (gRetF f ρ) F E = Ev (f ρ) (fun d ρ => Ev (ret (.rf d) ρ) F E) E := y_bnd _ _
def owP (o : Option Slot) (Q : Option Nat → D → Prop) (_ : Dm Q := ()) : Prop := match o with
  | some (.ow t d) => Q t d
  | _ => False
@[simp] theorem owP_ow (t : Option Nat) (d : D) (Q : Option Nat → D → Prop) : owP (some (.ow t d)) Q = Q t d := rfl
@[simp] theorem y_gretO (i : Nat) : Ev (gRetO i ρ) F E = owP ρ[i]? (fun t d => t = none ∧ F (.rf d) ρ) := by
  unfold gRetO owP Ev
  rcases ρ[i]? with _ | s
  · rfl
  · cases s with
    | ow t d => cases t <;> simp
    | _ => rfl
@[simp] theorem y_nil : Ev (gNil ρ) As E = As [] ρ := by unfold Ev; rfl
@[simp] theorem y_arg (f : M D) (r : M (List ArgR)) : Ev (gArg f r ρ) As E = Ev (f ρ) (fun d ρ => Ev (bnd r (fun ds => ret (.v d :: ds)) ρ) As E) E := y_bnd _ _
@[simp] theorem y_tup (f : M (List ArgR)) : Ev (gTup f ρ) Q E = Ev (f ρ) (fun as ρ => Ev (ofO ((vals as).bind fun ds => if ds.length ≤ 16777216 then some (.tup ds) else none) ρ) Q E) E := y_bnd _ _
@[simp] theorem y_lst (f : M (List ArgR)) : Ev (gLst f ρ) Q E = Ev (f ρ) (fun as ρ => Ev (ofO ((vals as).bind fun ds => if ds.length ≤ 16777216 then some (.lst ds) else none) ρ) Q E) E := y_bnd _ _
@[simp] theorem vals_nil : vals [] = some [] := rfl
@[simp] theorem vals_cons (d : D) (as : List ArgR) : vals (.v d :: as) = (vals as).map fun ds => d :: ds := rfl
@[simp] theorem y_call (ks : List Kd) (n : Nat) (g : M Fl) (fa : M (List ArgR)) : Ev (gCall ks n g fa ρ) Q E = Ev (fa ρ) (fun as ρ => Ev (callD ks n g as ρ) Q E) E := y_bnd _ _
@[simp] theorem y_seqI (f : M D) : Ev (gSeqI f ρ) L E = Ev (f ρ) (fun d ρ => Ev (ofO (seqD d) ρ) L E) E := y_bnd _ _
@[simp] theorem y_i1 (f : M D) (k : D → Option (List D)) : Ev (gI1 f k ρ) L E = Ev (f ρ) (fun d ρ => Ev (ofO (k d) ρ) L E) E := y_bnd _ _
@[simp] theorem y_for (fi : M (List D)) (tg : D → M Unit) (body : M Fl) : Ev (gFor fi tg body ρ) F E = Ev (fi ρ) (fun ds ρ => Ev (forD tg body ds ρ) F E) E := y_bnd _ _
@[simp] theorem y_gN {U : Unit → Rho → Prop} (i : Nat) (d : D) : Ev (gN i d ρ) U E = U () (ρ.set i (.sh d)) := by unfold Ev; rfl
def lsP (o : Option Slot) (Q : Option Nat → List D → Prop) (_ : Dm Q := ()) : Prop := match o with
  | some (.ow t (.lst ds)) => Q t ds
  | _ => False
@[simp] theorem lsP_ow (t : Option Nat) (ds : List D) (Q : Option Nat → List D → Prop) : lsP (some (.ow t (.lst ds))) Q = Q t ds := rfl
@[simp] theorem y_mutA (i : Nat) (y : D) : Ev (mutL i appD y ρ) F E = lsP ρ[i]? fun t ds => ds.length < 16777216 ∧ F .nx (ρ.set i (.ow t (.lst (ds ++ [y])))) := by
  unfold mutL lsP
  rcases ρ[i]? with _ | s
  · exact y_st
  · cases s with
    | ow t d =>
      cases d with
      | lst ds =>
        by_cases h : ds.length < 16777216 <;> simp [appD, h]
      | _ => exact y_st
    | _ => exact y_st
@[simp] theorem y_mutL (i : Nat) (h : List D → D → Option (List D)) (f : M D) : Ev (gMutL i h f ρ) F E = lsP ρ[i]? fun _ _ => Ev (f ρ) (fun y ρ => Ev (mutL i h y ρ) F E) E := by
  unfold gMutL isOwL lsP
  rcases ρ[i]? with _ | s
  · exact y_st
  · cases s with
    | ow t d =>
      cases d with
      | lst ds => exact y_bnd _ _
      | _ => exact y_st
    | _ => exact y_st
@[simp] theorem y_i (g : Int → Int → Int) (c : Int → Int → Bool) (i j : Int) : Ev (ofO (iiD c g (.int i) (.int j)) ρ) Q E = (c i j = true ∧ Q (.int (g i j)) ρ) := by
  unfold iiD
  by_cases h : c i j = true <;> simp [h]
@[simp] theorem y_add (i j : Int) : Ev (ofO (addD (.int i) (.int j)) ρ) Q E = Q (.int (i + j)) ρ := by unfold Ev; rfl
@[simp] theorem y_mul (i j : Int) : Ev (ofO (mulD (.int i) (.int j)) ρ) Q E = (((-18446744073709551616 < i ∧ i < 18446744073709551616) ∨ (-18446744073709551616 < j ∧ j < 18446744073709551616)) ∧ Q (.int (i * j)) ρ) := by
  unfold mulD; rw [y_i]; simp
@[simp] theorem y_div (i j : Int) : Ev (ofO (divD (.int i) (.int j)) ρ) Q E = ((0 < j ∧ j < 1073741824) ∧ Q (.int (i / j)) ρ) := by
  unfold divD; rw [y_i]; simp
@[simp] theorem y_pow (i j : Int) : Ev (ofO (powD (.int i) (.int j)) ρ) Q E = ((0 ≤ j ∧ j ≤ 1000000 ∧ i.natAbs < 18446744073709551616) ∧ Q (.int (i ^ j.toNat)) ρ) := by
  unfold powD; rw [y_i]; simp
@[simp] theorem y_mod (i j : Int) : Ev (ofO (modD (.int i) (.int j)) ρ) Q E = (0 < j ∧ Q (.int (i % j)) ρ) := by
  unfold modD; rw [y_i]; simp
end
/-- a loop that keeps going -/
theorem for_inv {tg : D → M Unit} {body : M Fl} {E : D → Rho → Prop} {F : Fl → Rho → Prop} {ds : List D} {ρ : Rho} (I : Nat → Rho → Prop) (h0 : I 0 ρ) (st : ∀ i d ρ, ds[i]? = some d → I i ρ → Ev (tg d ρ) (fun _ ρ => Ev (body ρ) (fun fl ρ => match fl with | .nx => I (i + 1) ρ | .ct => I (i + 1) ρ | .bk => F .nx ρ | fl => F fl ρ) E) (fun _ _ => False)) (h1 : ∀ ρ, I ds.length ρ → F .nx ρ) :
    Ev (forD tg body ds ρ) F E := by
  suffices z : ∀ (es : List D) (n : Nat) (ρ : Rho), es = ds.drop n → n ≤ ds.length → I n ρ → Ev (forD tg body es ρ) F E from z ds 0 ρ rfl (Nat.zero_le _) h0
  intro es
  induction es with
  | nil =>
    intro n ρ e l i
    have l' : ds.length ≤ n := by
      have := congrArg List.length e
      simp at this
      omega
    have : n = ds.length := by omega
    subst this
    rw [show forD tg body [] ρ = .ok .nx ρ from rfl, y_ok]
    exact h1 ρ i
  | cons d es ih =>
    intro n ρ e l i
    have l' : n < ds.length := by
      have := congrArg List.length e
      simp at this
      omega
    have e2 := List.drop_eq_getElem_cons l'
    rw [← e] at e2
    cases e2
    have q := st n _ ρ (List.getElem?_eq_getElem l') i
    simp only [forD]
    cases ht : tg ds[n] ρ with
    | ok u ρ1 =>
      rw [ht] at q
      simp only [y_ok] at q ⊢
      cases hb : body ρ1 with
      | ok fl ρ2 =>
        rw [hb] at q
        cases fl with
        | nx => exact ih (n + 1) ρ2 rfl l' (by unfold Ev at q; exact q)
        | ct => exact ih (n + 1) ρ2 rfl l' (by unfold Ev at q; exact q)
        | bk => unfold Ev at q ⊢; exact q
        | rt d => unfold Ev at q ⊢; exact q
        | rf d => unfold Ev at q ⊢; exact q
        | rn d => unfold Ev at q ⊢; exact q
      | er x ρ2 =>
        rw [hb] at q
        unfold Ev at q ⊢; exact q
      | st =>
        rw [hb] at q
        unfold Ev at q ⊢; exact q
    | er x ρ1 =>
      rw [ht] at q
      unfold Ev at q; exact q.elim
    | st =>
      rw [ht] at q
      unfold Ev at q; exact q.elim
/-- what a function hands back -/
def retP (P : D → Prop) : Fl → Prop
  | .nx => P .non
  | .rt d => P d
  | .rf d => P d
  | .rn d => P (strip d)
  | _ => False
@[simp] theorem retP_nx (P : D → Prop) : retP P .nx = P .non := rfl
@[simp] theorem retP_rn (P : D → Prop) (d : D) : retP P (.rn d) = P (strip d) := rfl
@[simp] theorem retP_rt (P : D → Prop) (d : D) : retP P (.rt d) = P d := rfl
@[simp] theorem retP_rf (P : D → Prop) (d : D) : retP P (.rf d) = P d := rfl
/-- a function's promise: a value, or an exception -/
def Gv (ks : List Kd) (n : Nat) (g : M Fl) (ds : List D) (P : D → Prop) (X : D → Prop) : Prop := Ev (g (rho0 ks ds n)) (fun fl _ => retP P fl) (fun e _ => X e)
theorem gv_call1 {n : Nat} {g : M Fl} {x : D} {P X : D → Prop} {ρ : Rho} {Q : D → Rho → Prop} {E : D → Rho → Prop} (h : Gv [.sh] n g [x] P X) (q : ∀ d, P d → Q d ρ) (e : ∀ d, X d → E d ρ) : Ev (callD [.sh] n g [.v x] ρ) Q E := by
  unfold Gv at h
  simp only [callD, okA, ioS, bwS, argDs, argD, Option.map_some, Option.bind_some]
  cases hg : g (rho0 [.sh] [x] n) with
  | ok fl ρ' =>
    rw [hg, y_ok] at h
    cases fl <;> simp_all [retP, fin, backA]
  | er d ρ' =>
    rw [hg, y_er] at h
    simp_all [fin, backA]
  | st => rw [hg] at h; unfold Ev at h; exact h.elim
theorem gv_call2 {n : Nat} {g : M Fl} {x y : D} {P X : D → Prop} {ρ : Rho} {Q : D → Rho → Prop} {E : D → Rho → Prop} (h : Gv [.sh, .sh] n g [x, y] P X) (q : ∀ d, P d → Q d ρ) (e : ∀ d, X d → E d ρ) : Ev (callD [.sh, .sh] n g [.v x, .v y] ρ) Q E := by
  unfold Gv at h
  simp only [callD, okA, ioS, bwS, argDs, argD, Option.map_some, Option.bind_some]
  cases hg : g (rho0 [.sh, .sh] [x, y] n) with
  | ok fl ρ' =>
    rw [hg, y_ok] at h
    cases fl <;> simp_all [retP, fin, backA]
  | er d ρ' =>
    rw [hg, y_er] at h
    simp_all [fin, backA]
  | st => rw [hg] at h; unfold Ev at h; exact h.elim
@[simp] theorem y_rng1 {L : List D → Rho → Prop} {E : D → Rho → Prop} {ρ : Rho} (j : Int) : Ev (ofO (rng1 (.int j)) ρ) L E = ((-4611686018427387904 ≤ j ∧ j < 4611686018427387904) ∧ L (rng 0 j) ρ) := by
  by_cases h : -4611686018427387904 ≤ j ∧ j < 4611686018427387904
  · rw [show rng1 (.int j) = some (rng 0 j) from if_pos h, y_ofO]; simp [h]
  · rw [show rng1 (.int j) = none from if_neg h, y_ofOn]; simp [h]
@[simp] theorem s_lt (i j : Int) : ltD (.int i) (.int j) = some (decide (i < j)) := rfl
@[simp] theorem s_le (i j : Int) : leD (.int i) (.int j) = some (decide (i ≤ j)) := rfl
@[simp] theorem s_gt (i j : Int) : gtD (.int i) (.int j) = some (decide (j < i)) := rfl
@[simp] theorem s_ge (i j : Int) : geD (.int i) (.int j) = some (decide (j ≤ i)) := rfl
@[simp] theorem s_trub (b : Bool) : truD (.bl b) = some b := rfl
@[simp] theorem s_intV (i : Int) : intV (.int i) = some (.int i) := rfl
@[simp] theorem s_lenscr (ns : List Int) : lenV (.scr ns) = some (.int (ns.length : Nat)) := rfl
@[simp] theorem s_lenlst (ns : List D) : lenV (.lst ns) = some (.int (ns.length : Nat)) := rfl
@[simp] theorem s_lentup (ns : List D) : lenV (.tup ns) = some (.int (ns.length : Nat)) := rfl
@[simp] theorem s_neg (i : Int) : negD (.int i) = some (.int (-i)) := rfl
theorem rng_get {a b : Int} {i : Nat} {d : D} (h : (rng a b)[i]? = some d) : d = .int (a + (i : Nat)) ∧ a + (i : Nat) < b := by
  unfold rng at h
  rw [List.getElem?_map] at h
  cases e : (List.range (b - a).toNat)[i]? with
  | none => rw [e] at h; cases h
  | some j =>
    rw [e] at h
    obtain ⟨l, rfl⟩ := List.getElem?_eq_some_iff.1 e
    simp at h l ⊢
    exact ⟨h.symm, by omega⟩
theorem rng_len (a b : Int) : (rng a b).length = (b - a).toNat := by simp [rng]
theorem rng1_i {j : Int} (a : -(2 ^ 62) ≤ j) (b : j < 2 ^ 62) : rng1 (.int j) = some (rng 0 j) := if_pos ⟨a, b⟩
end Qy

set_option Elab.async false
set_option linter.all false
set_option maxHeartbeats 0
/-! M3: subscripts, slices -/
namespace Qy
open PySem PySem.Spec L2
theorem ixN_nat {n k : Nat} (h : k < n) : L2.ixN n (k : Int) = some k := by
  unfold L2.ixN
  simp
  omega
theorem at_nat {α : Type} {xs : List α} {k : Nat} {x : α} (h : xs[k]? = some x) : L2.atI xs (k : Int) = some x := by
  obtain ⟨l, _⟩ := List.getElem?_eq_some_iff.1 h
  unfold L2.atI
  rw [ixN_nat l]
  exact h
theorem ix_scr {ns : List Int} {k : Nat} {x : Int} (h : ns[k]? = some x) : ixD (.scr ns) (.int k) = some (.int x) := by
  show (L2.atI ns (k : Int)).map D.int = _
  rw [at_nat h]; rfl
theorem ix_lst {ns : List D} {k : Nat} {x : D} (h : ns[k]? = some x) : ixD (.lst ns) (.int k) = some x := at_nat h
theorem ix_tup {ns : List D} {k : Nat} {x : D} (h : ns[k]? = some x) : ixD (.tup ns) (.int k) = some x := at_nat h
theorem cut_to {α : Type} (xs : List α) (k : Nat) : cutL xs none (some (k : Int)) = xs.take k := by
  unfold cutL HT.sIx
  have h : ¬ ((k : Int) < 0) := by omega
  simp only [h, if_false, List.drop_zero, Nat.sub_zero, Int.toNat_natCast]
  rcases Nat.le_total k xs.length with l | l
  · rw [Nat.min_eq_left l]
  · rw [Nat.min_eq_right l, List.take_of_length_le (Nat.le_refl _), List.take_of_length_le l]
/-- a text of at most n signs, all sound -/
def Sh (n : Nat) (s : PySem.Str) : Prop := s.length ≤ n ∧ PyData.strOk s = true
theorem Sh.mono {n m : Nat} {s : PySem.Str} (h : Sh n s) (l : n ≤ m) : Sh m s := ⟨Nat.le_trans h.1 l, h.2⟩
theorem one_len (c : Nat) : (⟨#[c]⟩ : PySem.Str).length = 1 := rfl
theorem app_len (s t : PySem.Str) : (s ++ t).length = s.length + t.length := by
  show (s.cps ++ t.cps).size = _
  rw [Array.size_append]
  rfl
theorem Sh.add {n m : Nat} {s t : PySem.Str} (a : Sh n s) (b : Sh m t) : Sh (n + m) (s ++ t) := by
  refine ⟨by rw [app_len]; exact Nat.add_le_add a.1 b.1, ?_⟩
  have h1 := a.2
  have h2 := b.2
  unfold PyData.strOk at h1 h2 ⊢
  show (s.cps ++ t.cps).all _ = true
  rw [Array.all_append, h1, h2]; rfl
theorem add_str {s t : PySem.Str} (h : s.length + t.length ≤ 16777216) : addD (.str s) (.str t) = some (.str (s ++ t)) := if_pos h
end Qy

set_option Elab.async false
set_option linter.all false
set_option maxHeartbeats 0
/-! M4: comprehensions -/
namespace Qy
open PySem PySem.Spec L2
def All2 (P : D → D → Prop) : List D → List D → Prop
  | [], [] => True
  | d :: ds, y :: ys => P d y ∧ All2 P ds ys
  | _, _ => False
theorem All2.len {P : D → D → Prop} : ∀ {ds ys : List D}, All2 P ds ys → ys.length = ds.length
  | [], [], _ => rfl
  | _ :: _, _ :: _, h => by simp [h.2.len]
  | [], _ :: _, h => h.elim
  | _ :: _, [], h => h.elim
theorem All2.map {P : D → D → Prop} {F : D → D} : ∀ {ds ys : List D}, All2 P ds ys → (∀ d ∈ ds, ∀ y, P d y → y = F d) → ys = ds.map F
  | [], [], _, _ => rfl
  | d :: ds, y :: ys, h, f => by rw [List.map_cons, ← f d List.mem_cons_self y h.1, ← h.2.map fun d m => f d (List.mem_cons_of_mem _ m)]
  | [], _ :: _, h, _ => h.elim
  | _ :: _, [], h, _ => h.elim
theorem compD_inv {vs : List Nat} {tg : D → M Unit} {fe : M D} {τ : Rho} (hτ : wipeR vs τ = τ) (P : D → D → Prop) : ∀ (ds acc : List D), acc.length + ds.length ≤ 16777216 → (∀ d ∈ ds, Ev (tg d τ) (fun _ ρ1 => Ev (fe ρ1) (fun y ρ3 => P d y ∧ wipeR vs ρ3 = τ) (fun _ _ => False)) (fun _ _ => False)) →
    ∃ ys, compD vs tg (ret true) fe ds acc τ = .ok (acc ++ ys) τ ∧ All2 P ds ys
  | [], acc, _, _ => ⟨[], by simp [compD, ret_ap], trivial⟩
  | d :: ds, acc, l, h => by
    have hd := h d List.mem_cons_self
    simp only [List.length_cons] at l
    cases ht : tg d τ with
    | ok u ρ1 =>
      rw [ht, y_ok] at hd
      cases hf : fe ρ1 with
      | ok y ρ3 =>
        rw [hf, y_ok] at hd
        obtain ⟨ys, e, f⟩ := compD_inv hτ P ds (acc ++ [y]) (by simp; omega) (fun d m => h d (List.mem_cons_of_mem _ m))
        refine ⟨y :: ys, ?_, ⟨hd.1, f⟩⟩
        simp only [compD, ht, ret_ap, hf, hd.2]
        rw [if_pos (by omega), e]
        simp
      | er x ρ3 => rw [hf, y_er] at hd; exact hd.elim
      | st => rw [hf, y_st] at hd; exact hd.elim
    | er x ρ1 => rw [ht, y_er] at hd; exact hd.elim
    | st => rw [ht, y_st] at hd; exact hd.elim
theorem comp_inv {vs : List Nat} {tg : D → M Unit} {fe : M D} {ρ τ : Rho} {ds : List D} {Q : D → Rho → Prop} {E : D → Rho → Prop} (P : D → D → Prop) (h1 : wipeR vs ρ = τ) (h2 : wipeR vs τ = τ) (h3 : restR vs ρ τ = ρ) (l : ds.length ≤ 16777216) (h : ∀ d ∈ ds, Ev (tg d τ) (fun _ ρ1 => Ev (fe ρ1) (fun y ρ3 => P d y ∧ wipeR vs ρ3 = τ) (fun _ _ => False)) (fun _ _ => False))
    (q : ∀ ys, All2 P ds ys → Q (.lst ys) ρ) : Ev (compR vs tg (ret true) fe ds ρ) Q E := by
  obtain ⟨ys, e, f⟩ := compD_inv h2 P ds [] (by simpa using l) h
  unfold compR
  rw [h1, e]
  simp only [List.nil_append, h3, y_ok]
  exact q ys f
@[simp] theorem y_comp {Q : D → Rho → Prop} {E : D → Rho → Prop} {ρ : Rho} (vs : List Nat) (fi : M (List D)) (tg : D → M Unit) (tt : M Bool) (fe : M D) : Ev (gComp vs fi tg tt fe ρ) Q E = Ev (fi ρ) (fun ds ρ => Ev (compR vs tg tt fe ds ρ) Q E) E := y_bnd _ _
end Qy

set_option Elab.async false
set_option linter.all false
set_option maxHeartbeats 0
/-! M5: alternatives -/
namespace Qy
open PySem PySem.Spec L2
variable {Q : D → Rho → Prop} {E : D → Rho → Prop} {ρ : Rho}
@[simp] theorem y_altB (g g' : D → D → Option D) (f1 f2 : M D) : Ev (alt (gBin g f1 f2) (gBin g' f1 f2) ρ) Q E = Ev (f1 ρ) (fun x ρ1 => Ev (bnd f2 (fun y => ofO ((g x y).or (g' x y))) ρ1) Q E) E := by
  unfold alt gBin bnd
  cases h1 : f1 ρ with
  | ok x ρ1 =>
    simp only [Qy.R.bind, y_ok]
    cases h2 : f2 ρ1 with
    | ok y ρ2 =>
      dsimp only
      cases h3 : g x y with
      | some z => simp only [Option.some_or]; rfl
      | none => simp only [Option.none_or]; rfl
    | er _ _ => rfl
    | st => rfl
  | er _ _ => simp only [Qy.R.bind, y_er]
  | st => simp only [Qy.R.bind, y_st]
@[simp] theorem y_sl (g : D → Option Int → Option Int → Option D) (f1 : M D) (fl fh : M (Option Int)) : Ev (gSl g f1 fl fh ρ) Q E = Ev (f1 ρ) (fun x ρ => Ev (bnd fl (fun lo => bnd fh fun hi => ofO (g x lo hi)) ρ) Q E) E := y_bnd _ _
@[simp] theorem y_altS (g g' : D → Option Int → Option Int → Option D) (f1 : M D) (fl fh : M (Option Int)) : Ev (alt (gSl g f1 fl fh) (gSl g' f1 fl fh) ρ) Q E = Ev (f1 ρ) (fun x ρ1 => Ev (bnd fl (fun lo => bnd fh fun hi => ofO ((g x lo hi).or (g' x lo hi))) ρ1) Q E) E := by
  unfold alt gSl bnd
  cases h1 : f1 ρ with
  | ok x ρ1 =>
    simp only [Qy.R.bind, y_ok]
    cases h2 : fl ρ1 with
    | ok y ρ2 =>
      simp only []
      cases h4 : fh ρ2 with
      | ok y2 ρ2 =>
        dsimp only
        cases h3 : g x y y2 with
        | some z => simp only [Option.some_or]; rfl
        | none => simp only [Option.none_or]; rfl
      | er _ _ => rfl
      | st => rfl
    | er _ _ => rfl
    | st => rfl
  | er _ _ => simp only [Qy.R.bind, y_er]
  | st => simp only [Qy.R.bind, y_st]
end Qy

set_option Elab.async false
set_option linter.all false
set_option maxHeartbeats 0
/-! M6: more rules -/
namespace Qy
open PySem PySem.Spec L2
variable {Q : D → Rho → Prop} {F : Fl → Rho → Prop} {E : D → Rho → Prop} {ρ : Rho}
@[simp] theorem y_tupOf (f : M D) : Ev (gTupOf f ρ) Q E = Ev (f ρ) (fun d ρ => Ev (ofO ((tupD d).map D.tup) ρ) Q E) E := y_bnd _ _
@[simp] theorem y_listOf (f : M D) : Ev (gListOf f ρ) Q E = Ev (f ρ) (fun d ρ => Ev (ofO ((listD d).map D.lst) ρ) Q E) E := y_bnd _ _
@[simp] theorem s_tupL (xs : List D) : tupD (.lst xs) = some xs := rfl
@[simp] theorem s_tupT (xs : List D) : tupD (.tup xs) = some xs := rfl
@[simp] theorem s_lisL (xs : List D) : listD (.lst xs) = some xs := rfl
@[simp] theorem s_lisT (xs : List D) : listD (.tup xs) = some xs := rfl
@[simp] theorem y_stI (i : Nat) (k d : D) : Ev (stI i k d ρ) F E = owP ρ[i]? (fun t c => opt (stD c k d) fun c' => F .nx (ρ.set i (.ow t c'))) := by
  unfold stI owP
  rcases ρ[i]? with _ | s
  · exact y_st
  · cases s with
    | ow t c =>
      dsimp only
      cases stD c k d with
      | some c' => exact y_ok _
      | none => exact y_st
    | _ => exact y_st
@[simp] theorem y_isOw {α : Type} {P : α → Rho → Prop} (i : Nat) (g : M α) : Ev (isOw i g ρ) P E = owP ρ[i]? (fun _ _ => Ev (g ρ) P E) := by
  unfold isOw owP
  rcases ρ[i]? with _ | s
  · exact y_st
  · cases s with
    | ow t c => rfl
    | _ => exact y_st
@[simp] theorem y_setI (i : Nat) (fk fv : M D) : Ev (gSetI i fk fv ρ) F E = Ev (fv ρ) (fun d ρ => Ev (isOw i (bnd fk fun k => stI i k d) ρ) F E) E := y_bnd _ _
theorem okP_int (i : Int) : okP (.int i) = true := rfl
theorem okP_sh {n : Nat} {s : PySem.Str} (h : Sh n s) : okP (.str s) = true := by
  unfold okP SeqAt.shaped toP
  simp [PyData.canLay0, PyData.depth, h.2]
@[simp] theorem eq_int (i j : Int) : eqD (.int i) (.int j) = some (decide (i = j)) := by
  unfold eqD deq
  rw [okP_int, okP_int]
  simp only [and_self, if_true, toP, PyData.eqv]
  rfl
@[simp] theorem ne_int (i j : Int) : neD (.int i) (.int j) = some (!decide (i = j)) := by
  unfold neD deq
  rw [okP_int, okP_int]
  simp only [and_self, if_true, toP, PyData.eqv]
  rfl
theorem eq_sh {n m : Nat} {i j : PySem.Str} (a : Sh n i) (b : Sh m j) : eqD (.str i) (.str j) = some (decide (i = j)) := by
  unfold eqD deq
  rw [okP_sh a, okP_sh b]
  simp only [and_self, if_true, toP, PyData.eqv]
  rfl
end Qy

set_option Elab.async false
set_option linter.all false
set_option maxHeartbeats 0
/-! M7: more rules: exceptions, fields, calls, makers, chains -/
namespace Qy
open PySem PySem.Spec L2
variable {Q : D → Rho → Prop} {F : Fl → Rho → Prop} {T : Bool → Rho → Prop} {L : List D → Rho → Prop} {E : D → Rho → Prop} {ρ : Rho}
@[simp] theorem y_gone (f : M D) : Ev (gOne f ρ) L E = Ev (f ρ) (fun d ρ => L [d] ρ) E := by
  unfold gOne; rw [y_bnd]; congr 1; funext d ρ; exact y_ret _
@[simp] theorem y_raise (c : Str) (ns : List Str) (fa : M (List D)) : Ev (gRaise c ns fa ρ) F E = Ev (fa ρ) (fun ds ρ => E (.obj c ns ds) ρ) E := by
  unfold gRaise; rw [y_bnd]; congr 1; funext d ρ; exact y_er _
@[simp] theorem y_drop (f : M D) : Ev (gDrop f ρ) F E = Ev (f ρ) (fun _ ρ => F .nx ρ) E := by
  unfold gDrop; rw [y_bnd]; congr 1; funext d ρ; exact y_ret _
/-- a chain's rest -/
def chP (o : Option Bool) (a b : Prop) (_ : Dm a := ()) (_ : Dm b := ()) : Prop := match o with
  | some true => a
  | some false => b
  | none => False
@[simp] theorem chP_t (a b : Prop) : chP (some true) a b = a := rfl
@[simp] theorem chP_f (a b : Prop) : chP (some false) a b = b := rfl
@[simp] theorem chP_d (c : Prop) [Decidable c] (a b : Prop) : chP (some (decide c)) a b = if c then a else b := by
  by_cases h : c <;> simp [h]
@[simp] theorem y_chainT (g g' : D → D → Option Bool) (f1 f2 f3 : M D) : Ev (gChainT g g' f1 f2 f3 ρ) T E = Ev (f1 ρ) (fun x ρ => Ev (f2 ρ) (fun y ρ => chP (g x y) (Ev (bnd f3 (fun z => ofO (g' y z)) ρ) T E) (T false ρ)) E) E := by
  unfold gChainT
  rw [y_bnd]
  congr 1
  funext x ρ
  rw [y_bnd]
  congr 1
  funext y ρ
  cases g x y with
  | none => exact y_stuck
  | some k => cases k <;> first | exact y_ret _ | rfl
/-- and, or, not as values -/
def blP (d : D) (a b : Prop) (_ : Dm a := ()) (_ : Dm b := ()) : Prop := match d with
  | .bl true => a
  | .bl false => b
  | _ => False
@[simp] theorem blP_t (a b : Prop) : blP (.bl true) a b = a := rfl
@[simp] theorem blP_f (a b : Prop) : blP (.bl false) a b = b := rfl
theorem blP_b (k : Bool) (a b : Prop) : blP (.bl k) a b = if k = true then a else b := by cases k <;> rfl
@[simp] theorem y_andV (f1 f2 : M D) : Ev (gAndV f1 f2 ρ) Q E = Ev (f1 ρ) (fun x ρ => blP x (Ev (f2 ρ) Q E) (Q (.bl false) ρ)) E := by
  unfold gAndV
  rw [y_bnd]
  congr 1
  funext x ρ
  unfold blP
  split <;> simp
@[simp] theorem y_orV (f1 f2 : M D) : Ev (gOrV f1 f2 ρ) Q E = Ev (f1 ρ) (fun x ρ => blP x (Q (.bl true) ρ) (Ev (f2 ρ) Q E)) E := by
  unfold gOrV
  rw [y_bnd]
  congr 1
  funext x ρ
  unfold blP
  split <;> simp
@[simp] theorem y_notV (f1 : M D) : Ev (gNotV f1 ρ) Q E = Ev (f1 ρ) (fun x ρ => blP x (Q (.bl false) ρ) (Q (.bl true) ρ)) E := by
  unfold gNotV
  rw [y_bnd]
  congr 1
  funext x ρ
  cases x with
  | bl b => cases b <;> exact y_ret _
  | _ => exact y_stuck
/-- fields -/
@[simp] theorem y_fld (c f : Str) (fe : M D) : Ev (gFld c f fe ρ) Q E = Ev (fe ρ) (fun d ρ => Ev (ofO (fldD c f d) ρ) Q E) E := y_bnd _ _
@[simp] theorem y_meth (c m : Str) (ks : List Kd) (n : Nat) (g : M Fl) (fo : M D) (fa : M (List ArgR)) : Ev (gMeth c m ks n g fo fa ρ) Q E = Ev (fo ρ) (fun d ρ => insOk c m d = true ∧ Ev (bnd fa (fun as => callD ks n g (.v d :: as)) ρ) Q E) E := by
  unfold gMeth
  rw [y_bnd]
  congr 1
  funext d ρ
  by_cases h : insOk c m d = true <;> simp [h]
def obP (o : Option Slot) (q : Option Nat → Str → List Str → List D → Prop) (_ : Dm q := ()) : Prop := match o with
  | some (.ow t (.obj c ns ds)) => q t c ns ds
  | _ => False
@[simp] theorem obP_ow (t : Option Nat) (c : Str) (ns : List Str) (ds : List D) (q : Option Nat → Str → List Str → List D → Prop) : obP (some (.ow t (.obj c ns ds))) q = q t c ns ds := rfl
@[simp] theorem y_putF (c f : Str) (i : Nat) (y : D) : Ev (gPutF c f i y ρ) F E = obP ρ[i]? (fun t c' ns ds => (c' = c ∧ ns.length < 1000) ∧ F .nx (ρ.set i (.ow t (.obj c' (putN f ns) (putV f y ns ds))))) := by
  unfold gPutF obP
  rcases ρ[i]? with _ | s
  · exact y_st
  · cases s with
    | ow t d => cases d with
      | obj c' ns ds => dsimp only; by_cases h : c' = c ∧ ns.length < 1000 <;> simp [h]
      | _ => exact y_st
    | _ => exact y_st
@[simp] theorem y_setF (c f : Str) (i : Nat) (fe : M D) : Ev (gSetF c f i fe ρ) F E = Ev (fe ρ) (fun y ρ => Ev (gPutF c f i y ρ) F E) E := y_bnd _ _
/-- a field of the exception in hand -/
def xcP (c : Str) (o : Option Slot) (q : List Str → List D → Prop) (_ : Dm q := ()) : Prop := match o with
  | some (.xc (.obj c' ns ds)) => c' = c ∧ q ns ds
  | _ => False
@[simp] theorem xcP_xc (c c' : Str) (ns : List Str) (ds : List D) (q : List Str → List D → Prop) : xcP c (some (.xc (.obj c' ns ds))) q = (c' = c ∧ q ns ds) := rfl
@[simp] theorem y_xf (c f : Str) (i : Nat) : Ev (gXf c f i ρ) Q E = xcP c ρ[i]? (fun ns ds => Ev (ofO (getF f ns ds) ρ) Q E) := by
  unfold gXf xcP
  rcases ρ[i]? with _ | s
  · exact y_st
  · cases s with
    | xc d => cases d with
      | obj c' ns ds => dsimp only; by_cases e : c' = c <;> simp [e]
      | _ => exact y_st
    | _ => exact y_st
@[simp] theorem noX_nil : noX [] = [] := rfl
@[simp] theorem noX_xc (d : D) (r : Rho) : noX (.xc d :: r) = .no :: noX r := rfl
@[simp] theorem noX_no' (r : Rho) : noX (.no :: r) = .no :: noX r := rfl
@[simp] theorem noX_sh (d : D) (r : Rho) : noX (.sh d :: r) = .sh d :: noX r := rfl
@[simp] theorem noX_bw (d : D) (r : Rho) : noX (.bw d :: r) = .bw d :: noX r := rfl
@[simp] theorem noX_ow (t : Option Nat) (d : D) (r : Rho) : noX (.ow t d :: r) = .ow t d :: noX r := rfl
@[simp] theorem y_t2 {U : Unit → Rho → Prop} (g1 g2 : D → M Unit) (a b : D) : Ev (gT2 g1 g2 (.tup [a, b]) ρ) U E = Ev (g1 a ρ) (fun _ ρ => Ev (g2 b ρ) U E) E := y_bnd _ _
@[simp] theorem s_enL (xs : List D) : enumD (.lst xs) = some (enum xs) := rfl
@[simp] theorem s_enT (xs : List D) : enumD (.tup xs) = some (enum xs) := rfl
theorem enum_get {xs : List D} {i : Nat} {d : D} (h : (enum xs)[i]? = some d) : ∃ x, xs[i]? = some x ∧ d = .tup [.int (i : Nat), x] := by
  unfold enum at h
  rw [List.getElem?_mapIdx] at h
  cases hx : xs[i]? with
  | none => rw [hx] at h; cases h
  | some x => rw [hx] at h; exact ⟨x, rfl, (Option.some.inj h).symm⟩
theorem enum_len (xs : List D) : (enum xs).length = xs.length := by simp [enum]
@[simp] theorem s_isL (T : String) (xs : List D) : isiV T (.lst xs) = some (.bl (T == "list")) := rfl
@[simp] theorem s_isT (T : String) (xs : List D) : isiV T (.tup xs) = some (.bl (T == "tuple")) := rfl
@[simp] theorem s_isS (T : String) (s : Str) : isiV T (.str s) = some (.bl (T == "str")) := rfl
@[simp] theorem s_isI (T : String) (i : Int) : isiV T (.int i) = some (.bl (T == "int")) := rfl
@[simp] theorem s_isB (T : String) (b : Bool) : isiV T (.bl b) = some (.bl (T == "bool" || T == "int")) := rfl
@[simp] theorem s_isN (T : String) : isiV T .non = some (.bl false) := rfl
@[simp] theorem s_isDk (T : String) (ks : List Key) (xs : List D) : isiV T (.dk ks xs) = some (.bl (T == "dict")) := rfl
@[simp] theorem s_isDt (T : String) (ks : List (List Key)) (xs : List D) : isiV T (.dt ks xs) = some (.bl (T == "dict")) := rfl
@[simp] theorem s_seqL (xs : List D) : seqD (.lst xs) = some xs := rfl
@[simp] theorem s_seqS (s : Str) : seqD (.str s) = some (signs s) := rfl
@[simp] theorem s_allV (xs : List D) : allV (.lst xs) = (blsD xs).map fun bs => .bl (bs.all id) := rfl
@[simp] theorem s_seqT (xs : List D) : seqD (.tup xs) = some xs := rfl
def inP (d : D) (q : Int → Prop) (_ : Dm q := ()) : Prop := match d with
  | .int i => q i
  | _ => False
@[simp] theorem inP_i (i : Int) (q : Int → Prop) : inP (.int i) q = q i := rfl
@[simp] theorem y_part {U : Option Int → Rho → Prop} (f : M D) : Ev (gPart f ρ) U E = Ev (f ρ) (fun d ρ => inP d (fun i => U (some i) ρ)) E := by
  unfold gPart
  rw [y_bnd]
  congr 1
  funext d ρ
  cases d <;> first | exact y_ret _ | exact y_stuck
@[simp] theorem s_isNn (x : D) : isNonD x .non = some (isNon x) := rfl
@[simp] theorem isNon_non : isNon .non = true := rfl
@[simp] theorem isNon_bl (b : Bool) : isNon (.bl b) = false := rfl
@[simp] theorem isNon_int (b : Int) : isNon (.int b) = false := rfl
@[simp] theorem isNon_str (b : Str) : isNon (.str b) = false := rfl
@[simp] theorem isNon_tup (b : List D) : isNon (.tup b) = false := rfl
@[simp] theorem isNon_lst (b : List D) : isNon (.lst b) = false := rfl
@[simp] theorem isNon_dk (k : List Key) (b : List D) : isNon (.dk k b) = false := rfl
@[simp] theorem isNon_dt (k : List (List Key)) (b : List D) : isNon (.dt k b) = false := rfl
@[simp] theorem isNon_obj (c : Str) (k : List Str) (b : List D) : isNon (.obj c k b) = false := rfl
@[simp] theorem y_sorted (f : M D) : Ev (gC1 sortV f ρ) Q E = Ev (f ρ) (fun x ρ => Ev (ofO (sortV x) ρ) Q E) E := y_bnd _ _
/-! calls -/
theorem noio_ok {ks : List Kd} {as : List ArgR} (h : ks.contains .io = false) : ioS ks as = [] := by
  induction ks generalizing as with
  | nil => cases as <;> rfl
  | cons k ks ih =>
    simp only [List.contains_cons, Bool.or_eq_false_iff] at h
    cases as with
    | nil => cases k <;> rfl
    | cons a as => cases k <;> cases a <;> first | (simp at h; done) | exact ih h.2
theorem back_no (ρ' : Rho) {ks : List Kd} (h : ks.contains .io = false) : ∀ {as : List ArgR} {j : Nat} {ρ : Rho}, ks.length = as.length → backA ρ' j ks as ρ = some ρ := by
  induction ks with
  | nil => intro as j ρ l; cases as with
    | nil => simp [backA]
    | cons _ _ => simp at l
  | cons k ks ih =>
    simp only [List.contains_cons, Bool.or_eq_false_iff] at h
    intro as j ρ l
    cases as with
    | nil => simp at l
    | cons a as =>
      have := ih h.2 (as := as) (j := j + 1) (ρ := ρ) (by simpa using l)
      cases k <;> first | (simp at h; done) | (simpa only [backA] using this)
theorem gv_call {ks : List Kd} {n : Nat} {g : M Fl} {as : List ArgR} {ds : List D} {P X : D → Prop} {ρ : Rho} {Q : D → Rho → Prop} {E : D → Rho → Prop} (h : Gv ks n g ds P X) (hk : ks.contains .io = false) (hd : argDs ρ ks as = some ds) (q : ∀ d, P d → Q d ρ) (e : ∀ d, X d → E d ρ) : Ev (callD ks n g as ρ) Q E := by
  unfold Gv at h
  have hl := (argDs_at hd).1
  have ok : okA ks as = true := by unfold okA; rw [noio_ok hk]; simp
  unfold callD
  rw [if_pos ok, hd]
  dsimp only
  cases hg : g (rho0 ks ds n) with
  | ok fl ρ' =>
    rw [hg, y_ok] at h
    cases fl <;> simp_all [retP, fin, back_no]
  | er d ρ' =>
    rw [hg, y_er] at h
    simp_all [fin, back_no]
  | st => rw [hg] at h; unfold Ev at h; exact h.elim
/-- what a maker does -/
def Gm (c : Str) (ks : List Kd) (n : Nat) (g : M Fl) (ds : List D) (P X : D → Prop) : Prop := Ev (g (rho0 (.io :: ks) (.obj c [] [] :: ds) n)) (fun fl ρ' => (fl = .nx ∨ fl = .rt .non) ∧ ∃ d, ρ'[0]? = some (.ow (some 0) d) ∧ P d) (fun e ρ' => (∃ d, ρ'[0]? = some (.ow (some 0) d)) ∧ X e)
theorem arg_app {ρ : Rho} (s : Slot) : ∀ {ks : List Kd} {as : List ArgR} {ds : List D}, argDs ρ ks as = some ds → argDs (ρ ++ [s]) ks as = some ds
  | [], [], ds, h => h
  | k :: ks, a :: as, ds, h => by
    simp only [argDs] at h ⊢
    cases h1 : argD ρ k a with
    | none => rw [h1] at h; cases h
    | some d =>
      rw [h1] at h
      simp only [Option.bind_some] at h
      cases h2 : argDs ρ ks as with
      | none => rw [h2] at h; cases h
      | some ds' =>
        rw [h2] at h
        have e1 : argD (ρ ++ [s]) k a = some d := by
          cases k <;> cases a <;> first
            | exact h1
            | (simp only [argD] at h1 ⊢
               rename_i i
               cases hi : ρ[i]? with
               | none => rw [hi] at h1; cases h1
               | some t =>
                 have li := (List.getElem?_eq_some_iff.1 hi).1
                 rw [hi] at h1
                 rw [List.getElem?_append_left li, hi]
                 exact h1)
        rw [e1, arg_app s h2]
        exact h
  | [], _ :: _, ds, h => by cases h
  | _ :: _, [], ds, h => by cases h
theorem bws_lt {ρ : Rho} : ∀ {ks : List Kd} {as : List ArgR} {ds : List D}, argDs ρ ks as = some ds → ∀ i ∈ bwS ks as, i < ρ.length
  | [], [], ds, h, i, m => by cases m
  | k :: ks, a :: as, ds, h, i, m => by
    simp only [argDs] at h
    cases h1 : argD ρ k a with
    | none => rw [h1] at h; cases h
    | some d =>
      rw [h1] at h
      simp only [Option.bind_some] at h
      cases h2 : argDs ρ ks as with
      | none => rw [h2] at h; cases h
      | some ds' =>
        cases k <;> cases a <;> first
          | exact bws_lt h2 i m
          | (simp only [bwS, List.mem_cons] at m
             rcases m with rfl | m
             · simp only [argD] at h1
               cases hi : ρ[i]? with
               | none => rw [hi] at h1; cases h1
               | some t => exact (List.getElem?_eq_some_iff.1 hi).1
             · exact bws_lt h2 i m)
  | [], _ :: _, ds, h, i, m => by cases h
  | _ :: _, [], ds, h, i, m => by cases h
theorem gm_make {c : Str} {ks : List Kd} {n : Nat} {g : M Fl} {as : List ArgR} {ds : List D} {P X : D → Prop} {ρ : Rho} {Q : D → Rho → Prop} {E : D → Rho → Prop} (h : Gm c ks n g ds P X) (hk : ks.contains .io = false) (hd : argDs ρ ks as = some ds) (q : ∀ d, P d → Q d ρ) (e : ∀ d, X d → E d ρ) : Ev (makeD c ks n g as ρ) Q E := by
  unfold Gm at h
  have hl := (argDs_at hd).1
  have n1 : (ρ ++ [Slot.ow none (.obj c [] [])])[ρ.length]? = some (.ow none (.obj c [] [])) := by simp
  have ok : okA (.io :: ks) (.s ρ.length :: as) = true := by
    unfold okA
    simp only [ioS, bwS, noio_ok hk]
    simp only [List.nodup_cons, List.not_mem_nil, not_false_eq_true, List.nodup_nil, and_self, decide_true, Bool.true_and, List.all_eq_true, Bool.not_eq_true', List.contains_cons, List.contains_nil, Bool.or_false]
    intro i m
    have := bws_lt hd i m
    exact beq_eq_false_iff_ne.2 (by omega)
  have ar : argDs (ρ ++ [Slot.ow none (.obj c [] [])]) (.io :: ks) (.s ρ.length :: as) = some (.obj c [] [] :: ds) := by
    simp only [argDs, argD, n1, arg_app _ hd, Option.bind_some, Option.map_some]
  have bk : ∀ ρ' d, ρ'[0]? = some (Slot.ow (some 0) d) → backA ρ' 0 (.io :: ks) (.s ρ.length :: as) (ρ ++ [Slot.ow none (.obj c [] [])]) = some (ρ ++ [.ow none d]) := by
    intro ρ' d h0
    simp only [backA, h0, n1, if_true]
    rw [back_no _ hk hl]
    simp
  have n2 : ∀ d, (ρ ++ [Slot.ow none d])[ρ.length]? = some (.ow none d) := by simp
  have n3 : ∀ s : Slot, (ρ ++ [s]).take ρ.length = ρ := by simp
  unfold makeD callD
  rw [if_pos ok, ar]
  dsimp only
  cases hg : g (rho0 (.io :: ks) (.obj c [] [] :: ds) n) with
  | ok fl ρ' =>
    rw [hg, y_ok] at h
    obtain ⟨hf, d, h0, pd⟩ := h
    rcases hf with rfl | rfl
    · simp only [fin, bk _ _ h0, n2, n3, y_ok]; exact q d pd
    · simp only [fin, bk _ _ h0, n2, n3, y_ok]; exact q d pd
  | er d ρ' =>
    rw [hg, y_er] at h
    obtain ⟨⟨d', h0⟩, xd⟩ := h
    simp only [fin, bk _ _ h0, n2, n3, y_er]; exact e d xd
  | st => rw [hg] at h; unfold Ev at h; exact h.elim
@[simp] theorem y_make (c : Str) (ks : List Kd) (n : Nat) (g : M Fl) (fa : M (List ArgR)) : Ev (gMake c ks n g fa ρ) Q E = Ev (fa ρ) (fun as ρ => Ev (makeD c ks n g as ρ) Q E) E := y_bnd _ _
@[simp] theorem y_dcomp (vs : List Nat) (c0 : D) (fi : M (List D)) (tg : D → M Unit) (tt : M Bool) (fk fv : M D) : Ev (gDComp vs c0 fi tg tt fk fv ρ) Q E = Ev (fi ρ) (fun ds ρ => Ev (compDR vs c0 tg tt fk fv ds ρ) Q E) E := y_bnd _ _
end Qy

set_option Elab.async false
set_option linter.all false
set_option maxHeartbeats 0
/-! M8: sorted lists of texts and of pairs of texts -/
namespace Qy
open PySem PySem.Spec L2
section
variable {α : Type} {le : α → α → Bool}
theorem uniq_sorted (anti : ∀ a b, le a b = true → le b a = true → a = b) : ∀ {l1 l2 : List α}, l1.Pairwise (fun a b => le a b = true) → l2.Pairwise (fun a b => le a b = true) → l1.Perm l2 → l1 = l2
  | [], l2, _, _, p => (List.Perm.nil_eq p)
  | a :: l1, [], _, _, p => (List.Perm.eq_nil p)
  | a :: l1, b :: l2, h1, h2, p => by
    rw [List.pairwise_cons] at h1 h2
    have e : a = b := by
      have ma : a ∈ b :: l2 := p.mem_iff.1 List.mem_cons_self
      have mb : b ∈ a :: l1 := p.mem_iff.2 List.mem_cons_self
      rcases List.mem_cons.1 ma with e | ma
      · exact e
      · rcases List.mem_cons.1 mb with e | mb
        · exact e.symm
        · exact anti _ _ (h1.1 _ mb) (h2.1 _ ma)
    subst e
    rw [uniq_sorted anti h1.2 h2.2 p.cons_inv]
variable (tr : ∀ a b c, le a b = true → le b c = true → le a c = true) (tot : ∀ a b, (le a b || le b a) = true) (anti : ∀ a b, le a b = true → le b a = true → a = b)
include tr tot anti
theorem sort_perm {l1 l2 : List α} (p : l1.Perm l2) : l1.mergeSort le = l2.mergeSort le :=
  uniq_sorted anti (List.pairwise_mergeSort tr tot l1) (List.pairwise_mergeSort tr tot l2) ((List.mergeSort_perm l1 le).trans (p.trans (List.mergeSort_perm l2 le).symm))
end
/-! texts -/
def leS (a b : Str) : Bool := decide (a.cps.toList ≤ b.cps.toList)
theorem leS_tr (a b c : Str) (h : leS a b = true) (k : leS b c = true) : leS a c = true := decide_eq_true (List.le_trans (of_decide_eq_true h) (of_decide_eq_true k))
theorem leS_tot (a b : Str) : (leS a b || leS b a) = true := by
  unfold leS
  rcases List.le_total a.cps.toList b.cps.toList with h | h <;> simp [h]
theorem str_ext {a b : Str} (h : a.cps.toList = b.cps.toList) : a = b := PySem.W.str_of_cps h
theorem leS_anti (a b : Str) (h : leS a b = true) (k : leS b a = true) : a = b := str_ext (List.le_antisymm (of_decide_eq_true h) (of_decide_eq_true k))
noncomputable def sortS (l : List Str) : List Str := l.mergeSort leS
theorem dLe_str (a b : Str) : PySem.W.dataLe false toP (.str a) (.str b) = leS a b := by
  have := congrFun (congrFun (PySem.W.dataLe_str (β := Str) id) a) b
  exact this
/-! pairs of texts -/
abbrev Pr : Type := Str × Str
def pd (p : Pr) : D := .tup [.str p.1, .str p.2]
def lePr (p q : Pr) : Bool := if p.1 = q.1 then leS p.2 q.2 else leS p.1 q.1
theorem lePr_anti (p q : Pr) (h : lePr p q = true) (k : lePr q p = true) : p = q := by
  unfold lePr at h k
  by_cases e : p.1 = q.1
  · rw [if_pos e] at h
    rw [if_pos e.symm] at k
    exact Prod.ext e (leS_anti _ _ h k)
  · rw [if_neg e] at h
    rw [if_neg (fun z => e z.symm)] at k
    exact (e (leS_anti _ _ h k)).elim
theorem lePr_tot (p q : Pr) : (lePr p q || lePr q p) = true := by
  unfold lePr
  by_cases e : p.1 = q.1
  · rw [if_pos e, if_pos e.symm]; exact leS_tot _ _
  · rw [if_neg e, if_neg (fun z => e z.symm)]; exact leS_tot _ _
theorem lePr_tr (p q r : Pr) (h : lePr p q = true) (k : lePr q r = true) : lePr p r = true := by
  unfold lePr at h k ⊢
  by_cases e1 : p.1 = q.1
  · rw [if_pos e1] at h
    by_cases e2 : q.1 = r.1
    · rw [if_pos e2] at k
      rw [if_pos (e1.trans e2)]
      exact leS_tr _ _ _ h k
    · rw [if_neg e2] at k
      rw [if_neg (by rw [e1]; exact e2), e1]
      exact k
  · rw [if_neg e1] at h
    by_cases e2 : q.1 = r.1
    · rw [if_pos e2] at k
      rw [if_neg (by rw [← e2]; exact e1), ← e2]
      exact h
    · rw [if_neg e2] at k
      by_cases e3 : p.1 = r.1
      · rw [← e3] at k
        exact (e1 (leS_anti _ _ h k)).elim
      · rw [if_neg e3]
        exact leS_tr _ _ _ h k
theorem eqv_str (a b : Str) : PyData.eqv (.str a) (.str b) = decide (a = b) := by
  simp only [PyData.eqv]
  rfl
theorem dLt_str (a b : Str) : PySem.W.dataLt (.str a) (.str b) = !leS b a := by
  have := dLe_str b a
  rw [PySem.W.dataLe_eq] at this
  simp only [cond_false, toP] at this
  rw [← this, Bool.not_not]
theorem dLe_pr (p q : Pr) : PySem.W.dataLe false toP (pd p) (pd q) = lePr p q := by
  rw [PySem.W.dataLe_eq]
  simp only [cond_false, pd, toP, toPs]
  rw [PySem.W.dataLt_pair (by simp only [PySem.W.alike]) (by simp only [PySem.W.alike]), eqv_str, eqv_str, dLt_str, dLt_str]
  unfold lePr
  by_cases e : p.1 = q.1
  · have e' := e.symm
    simp only [e, decide_true, if_true]
    by_cases f : p.2 = q.2
    · have := leS_tot p.2 q.2
      simp [f] at this ⊢
      exact this
    · simp [Ne.symm f]
  · have e' : ¬ q.1 = p.1 := fun z => e z.symm
    simp [e, e']
noncomputable def sortP (l : List Pr) : List Pr := l.mergeSort lePr
theorem srt_prs (P : List Pr) : srt (P.map pd) = (sortP P).map pd := by
  unfold srt sortP
  rw [List.map_mergeSort (r := lePr) (s := PySem.W.dataLe false toP) fun a _ b _ => (dLe_pr a b).symm]
def ShP (p : Pr) : Prop := Sh 16777216 p.1 ∧ Sh 16777216 p.2
theorem okP_pd {p : Pr} (h : ShP p) : okP (pd p) = true := by
  have a := h.1.2
  have b := h.2.2
  unfold okP SeqAt.shaped
  simp [pd, toP, toPs, PyData.canLay0, PyData.canLayAll0, PyData.depth, PyData.depthAll, a, b]
theorem ok_prs {P : List Pr} (h : ∀ p ∈ P, ShP p) (l : P.length ≤ 16777216) : srtOk (P.map pd) = true := by
  unfold srtOk
  simp only [Bool.and_eq_true, Bool.or_eq_true, List.all_eq_true, decide_eq_true_eq, List.length_map]
  refine ⟨?_, .inl ?_, ?_, l⟩
  · intro d m e n
    obtain ⟨s, _, rfl⟩ := List.mem_map.1 m
    obtain ⟨t, _, rfl⟩ := List.mem_map.1 n
    simp only [pd, toP, toPs, PySem.W.alike, PySem.W.alikeAll, Bool.and_self]
  · intro d m
    obtain ⟨s, _, rfl⟩ := List.mem_map.1 m
    rfl
  · intro d m
    obtain ⟨s, hs, rfl⟩ := List.mem_map.1 m
    exact ⟨by simp only [pd, imm, imms, Bool.and_self], okP_pd (h s hs)⟩
theorem sort_prs {P : List Pr} (h : ∀ p ∈ P, ShP p) (l : P.length ≤ 16777216) : sortV (.lst (P.map pd)) = some (.lst ((sortP P).map pd)) := by
  refine (if_pos (ok_prs h l)).trans ?_
  rw [srt_prs]
theorem sortP_mem {S : List Pr} {s : Pr} : s ∈ sortP S ↔ s ∈ S := (List.mergeSort_perm S lePr).mem_iff
theorem sortP_len (S : List Pr) : (sortP S).length = S.length := (List.mergeSort_perm S lePr).length_eq
theorem sortP_perm {S T : List Pr} (h : S.Perm T) : sortP S = sortP T := sort_perm lePr_tr lePr_tot lePr_anti h
theorem pd_inj {p q : Pr} (h : pd p = pd q) : p = q := by
  unfold pd at h
  injection h with h
  injection h with h1 h2
  injection h1 with h1
  injection h2 with h2
  injection h2 with h2
  exact Prod.ext h1 h2
end Qy

set_option Elab.async false
set_option linter.all false
set_option maxHeartbeats 0
/-! M9: rules of the widened layer -/
namespace Qy
open PySem PySem.Spec L2
variable {Q : D → Rho → Prop} {F : Fl → Rho → Prop} {T : Bool → Rho → Prop} {L : List D → Rho → Prop} {E : D → Rho → Prop} {ρ : Rho}
@[simp] theorem y_frz (i : Nat) (g : M Fl) : Ev (gFrz i g ρ) F E = owP ρ[i]? (fun t d => t = none ∧ Ev (g (ρ.set i (.sh d))) F E) := by
  unfold gFrz owP
  rcases ρ[i]? with _ | s
  · exact y_st
  · cases s with
    | ow t d =>
      cases t with
      | none => simp
      | some k => simp
    | _ => exact y_st
@[simp] theorem y_rev (xs : List D) : revD (.lst xs) = some (.lst xs.reverse) := rfl
def hdlP : List Cl → Str → List Str → List D → Rho → (Fl → Rho → Prop) → (D → Rho → Prop) → Prop
  | [], c, ns, ds, ρ, _, E => E (.obj c ns ds) ρ
  | (cm, io, h) :: r, c, ns, ds, ρ, F, E => match cm.lookup c with
    | some true => (match io with
      | some i => Ev (h ((noX ρ).set i (.xc (.obj c ns ds)))) (fun fl ρ => F fl (noX (ρ.set i .no))) (fun _ _ => False)
      | none => Ev (h ρ) F (fun _ _ => False))
    | some false => hdlP r c ns ds ρ F E
    | none => False
theorem hdl_ev (c : Str) (ns : List Str) (ds : List D) : ∀ cs : List Cl, Ev (hdl cs c ns ds ρ) F E = hdlP cs c ns ds ρ F E
  | [] => y_er _
  | (cm, io, h) :: r => by
    unfold hdl hdlP
    cases cm.lookup c with
    | none => exact y_st
    | some b =>
      cases b with
      | false => exact hdl_ev c ns ds r
      | true =>
        cases io with
        | none =>
          dsimp only
          cases h ρ with
          | ok fl ρ2 => simp only [endO, y_ok]
          | er e ρ2 => simp only [endO, y_st, y_er]
          | st => simp only [endO, y_st]
        | some i =>
          dsimp only
          cases h ((noX ρ).set i (.xc (.obj c ns ds))) with
          | ok fl ρ2 => simp only [endX, y_ok]
          | er e ρ2 => simp only [endX, y_st, y_er]
          | st => simp only [endX, y_st]
def tryM (cs : List Cl) (e : D) (ρ : Rho) (F : Fl → Rho → Prop) (E : D → Rho → Prop) : Prop := match e with
  | .obj c ns ds => hdlP cs c ns ds ρ F E
  | _ => False
@[simp] theorem y_tryM (cs : List Cl) (g : M Fl) : Ev (gTryM cs g ρ) F E = Ev (g ρ) F (fun e ρ => tryM cs e ρ F E) := by
  unfold gTryM
  cases hg : g ρ with
  | ok fl ρ1 => simp only [y_ok]
  | st => simp only [y_st]
  | er e ρ1 =>
    rw [y_er]
    cases e with
    | obj c ns ds => exact hdl_ev c ns ds cs
    | _ => exact y_st
end Qy

set_option Elab.async false
set_option linter.all false
set_option maxHeartbeats 0
/-! M10: comprehensions with a filter; dict comprehensions -/
namespace Qy
open PySem PySem.Spec L2
abbrev NF : D → Rho → Prop := fun _ _ => False
/-- many stores, one after the other -/
def stores : List (D × D) → D → Option D
  | [], c => some c
  | (k, y) :: r, c => (stD c k y).bind (stores r)
theorem compDD_fold {vs : List Nat} {tg : D → M Unit} {fk fv : M D} {τ : Rho} (kv : D → D × D) : ∀ (ds : List D) (c c' : D), (∀ d ∈ ds, Ev (tg d τ) (fun _ ρ1 => Ev (fk ρ1) (fun k ρ3 => Ev (fv ρ3) (fun y ρ4 => kv d = (k, y) ∧ wipeR vs ρ4 = τ) NF) NF) NF) → stores (ds.map kv) c = some c' → compDD vs tg (ret true) fk fv ds c τ = .ok c' τ
  | [], c, c', _, e => by cases e; rfl
  | d :: ds, c, c', h, e => by
    have hd := h d List.mem_cons_self
    cases ht : tg d τ with
    | er x ρ1 => rw [ht, y_er] at hd; exact hd.elim
    | st => rw [ht, y_st] at hd; exact hd.elim
    | ok u ρ1 =>
      rw [ht, y_ok] at hd
      cases hk : fk ρ1 with
      | er x ρ1 => rw [hk, y_er] at hd; exact hd.elim
      | st => rw [hk, y_st] at hd; exact hd.elim
      | ok k ρ2 =>
        rw [hk, y_ok] at hd
        cases hf : fv ρ2 with
        | er x ρ1 => rw [hf, y_er] at hd; exact hd.elim
        | st => rw [hf, y_st] at hd; exact hd.elim
        | ok y ρ3 =>
          rw [hf, y_ok] at hd
          obtain ⟨ek, hw⟩ := hd
          simp only [List.map_cons, stores, ek] at e
          cases hs : stD c k y with
          | none => rw [hs] at e; cases e
          | some c1 =>
            rw [hs] at e
            simp only [compDD, ht, ret_ap, hk, hf, hs, hw]
            exact compDD_fold kv ds c1 c' (fun d m => h d (List.mem_cons_of_mem _ m)) e
theorem dcomp_foldR {vs : List Nat} {c0 c' : D} {tg : D → M Unit} {fk fv : M D} {ρ τ ρ' : Rho} {ds : List D} {Q : D → Rho → Prop} {E : D → Rho → Prop} (kv : D → D × D) (h1 : wipeR vs ρ = τ) (h3 : restR vs ρ τ = ρ')
    (h : ∀ d ∈ ds, Ev (tg d τ) (fun _ ρ1 => Ev (fk ρ1) (fun k ρ3 => Ev (fv ρ3) (fun y ρ4 => kv d = (k, y) ∧ wipeR vs ρ4 = τ) NF) NF) NF) (e : stores (ds.map kv) c0 = some c') (q : Q c' ρ') : Ev (compDR vs c0 tg (ret true) fk fv ds ρ) Q E := by
  have z := compDD_fold kv ds c0 c' h e
  unfold compDR
  rw [h1, z]
  simp only [h3, y_ok]
  exact q
theorem dcomp_fold {vs : List Nat} {c0 c' : D} {tg : D → M Unit} {fk fv : M D} {ρ τ : Rho} {ds : List D} {Q : D → Rho → Prop} {E : D → Rho → Prop} (kv : D → D × D) (h1 : wipeR vs ρ = τ) (h3 : restR vs ρ τ = ρ)
    (h : ∀ d ∈ ds, Ev (tg d τ) (fun _ ρ1 => Ev (fk ρ1) (fun k ρ3 => Ev (fv ρ3) (fun y ρ4 => kv d = (k, y) ∧ wipeR vs ρ4 = τ) NF) NF) NF) (e : stores (ds.map kv) c0 = some c') (q : Q c' ρ) : Ev (compDR vs c0 tg (ret true) fk fv ds ρ) Q E := dcomp_foldR kv h1 h3 h e q
section
variable {Q : D → Rho → Prop} {T : Bool → Rho → Prop} {E : D → Rho → Prop} {ρ : Rho}
end
end Qy

set_option Elab.async false
set_option linter.all false
set_option maxRecDepth 100000
namespace Wk
noncomputable section
open PySem PySem.Spec PySem.Calls L2 PyProof.Rows Qy
def gxxlaw_cell : M Fl := 
  gSeq (gIf (gCmpT ltD (gVar 1) (gC1 lenV (gVar 0))) (
  gRet (gC1 intV (gIx (gVar 0) (gVar 1)))) (
  gSkip)) (
  gRet (gBin addD (gBin mulD (ret (.int 31)) (gVar 1)) (gC1 lenV (gVar 0))))
def gxxlaw_draws : M Fl := 
  gSeq (gSet 0 (gC1 intV (gVar 0))) (
  gSeq (gSet 2 (gCmp geD (gVar 0) (gBin powD (ret (.int 10)) (ret (.int 18))))) (
  gSeq (gOwn 3 (gLst (gNil))) (
  gSeq (gFor (gI1 (gVar 1) rng1) (gN 4) (
  gIf (gTru (gVar 2)) (
  gSeq (gMutL 3 appD (gBin modD (gC1 intV (gVar 0)) (ret (.int 5040)))) (
  gSet 0 (gBin divD (gVar 0) (ret (.int 5040))))) (
  gSeq (gSet 5 (gBin modD (gC1 intV (gBin mulD (gBin addD (gBin addD (gVar 0) (gBin mulD (ret (.int 7919)) (gVar 4))) (ret (.int 1))) (ret (.int 48271)))) (ret (.int 2147483647)))) (
  gSeq (gSet 5 (gBin modD (gC1 intV (gBin mulD (gVar 5) (gBin addD (gBin divD (gVar 5) (ret (.int 1009))) (ret (.int 69621))))) (ret (.int 2147483647)))) (
  gSeq (gSet 5 (gBin modD (gC1 intV (gBin mulD (gVar 5) (gBin addD (gBin divD (gVar 5) (ret (.int 2003))) (ret (.int 40692))))) (ret (.int 2147483399)))) (
  gMutL 3 appD (gBin modD (gC1 intV (gBin divD (gVar 5) (ret (.int 16)))) (ret (.int 5040))))))))) (
  gRetO 3))))
def gxxlaw_people : M Fl := 
  gSeq (gSet 2 (ret (.str "abcdefghijklmnopqrstuvwxyz"))) (
  gSeq (gSet 3 (gCall [.sh, .sh] 4 gxxlaw_draws (gArg (gVar 0) (gArg (gBin mulD (ret (.int 2)) (gVar 1)) (gNil))))) (
  gSeq (gOwn 4 (gLst (gNil))) (
  gSeq (gFor (gI1 (gVar 1) rng1) (gN 5) (
  gSeq (gSet 6 (gBin addD (gBin mulD (gIx (gVar 3) (gBin mulD (ret (.int 2)) (gVar 5))) (ret (.int 5040))) (gIx (gVar 3) (gBin addD (gBin mulD (ret (.int 2)) (gVar 5)) (ret (.int 1)))))) (
  gSeq (gSet 7 (gBin addD (ret (.int 1)) (gBin modD (gC1 intV (gVar 6)) (ret (.int 8))))) (
  gSeq (gSet 6 (gBin divD (gVar 6) (ret (.int 8)))) (
  gSeq (gSet 8 (ret (.str ""))) (
  gSeq (gFor (gI1 (gVar 7) rng1) (gN 9) (
  gSeq (gSet 8 (gBin addD (gVar 8) (gIx (gVar 2) (gBin modD (gC1 intV (gVar 6)) (ret (.int 26)))))) (
  gSet 6 (gBin divD (gVar 6) (ret (.int 26)))))) (
  gSeq (gIf (gCmpT inD (gVar 8) (gRef 4)) (
  gSet 8 (gBin addD (ret (.str "zzzzzzz")) (gIx (gVar 2) (gVar 5)))) (
  gSkip)) (
  gMutL 4 appD (gVar 8))))))))) (
  gRetO 4))))
def gxxlaw_barred : M Fl := 
  gSeq (gSet 2 (gC1 lenV (gVar 1))) (
  gSeq (gSet 3 (gCall [.sh, .sh] 4 gxxlaw_draws (gArg (gVar 0) (gArg (gBin addD (gBin mulD (gVar 2) (gVar 2)) (ret (.int 1))) (gNil))))) (
  gSeq (gSet 4 (gIx (gLst (gArg (ret (.int 0)) (gArg (ret (.int 1)) (gArg (ret (.int 2)) (gArg (ret (.int 3)) (gArg (ret (.int 5)) (gArg (ret (.int 8)) (gNil)))))))) (gBin modD (gC1 intV (gIx (gVar 3) (ret (.int 0)))) (ret (.int 6))))) (
  gSeq (gOwn 5 (gLst (gNil))) (
  gSeq (gFor (gI1 (gBin mulD (gVar 2) (gVar 2)) rng1) (gN 6) (
  gSeq (gSet 7 (gIx (gVar 1) (gBin divD (gVar 6) (gVar 2)))) (
  gSeq (gSet 8 (gIx (gVar 1) (gBin modD (gC1 intV (gVar 6)) (gVar 2)))) (
  gIf (gAndT (gCmpT neD (gVar 7) (gVar 8)) (gCmpT ltD (gBin modD (gC1 intV (gIx (gVar 3) (gBin addD (gVar 6) (ret (.int 1))))) (ret (.int 12))) (gVar 4))) (
  gMutL 5 appD (gTup (gArg (gVar 7) (gArg (gVar 8) (gNil))))) (
  gSkip))))) (
  gSeq (gIf (gCmpT eqD (gBin modD (gC1 intV (gBin divD (gIx (gVar 3) (ret (.int 0))) (ret (.int 6)))) (ret (.int 2))) (ret (.int 1))) (
  gFrz 5 (gOwn 5 (gC1 revD (gVar 5)))) (
  gSkip)) (
  gRetO 5))))))
def gxxlaw_equal : Nat → M Fl
| 0 => stuck
| m + 1 => 
  gSeq (gIf (gOrT (gTru (gC1 (isiV "list") (gVar 1))) (gTru (gC1 (isiV "tuple") (gVar 1)))) (
  gSeq (gIf (gAndT (gTru (gC1 (isiV "list") (gVar 1))) (gNotT (gTru (gC1 (isiV "list") (gVar 0))))) (
  gRet (ret (.bl false))) (
  gSkip)) (
  gSeq (gIf (gAndT (gTru (gC1 (isiV "tuple") (gVar 1))) (gNotT (gTru (gC1 (isiV "tuple") (gVar 0))))) (
  gRet (ret (.bl false))) (
  gSkip)) (
  gSeq (gIf (gCmpT neD (gC1 lenV (gVar 0)) (gC1 lenV (gVar 1))) (
  gRet (ret (.bl false))) (
  gSkip)) (
  gRet (gC1 allV (gComp [2] (gI1 (gC1 lenV (gVar 1)) rng1) (gN 2) (ret true) (gCall [.sh, .sh] 2 (gxxlaw_equal m) (gArg (gIx (gVar 0) (gVar 2)) (gArg (gIx (gVar 1) (gVar 2)) (gNil)))))))))) (
  gSkip)) (
  gSeq (gIf (gTru (gC1 (isiV "dict") (gVar 1))) (
  gSeq (gIf (gOrT (gNotT (gTru (gC1 (isiV "dict") (gVar 0)))) (gCmpT neD (gC1 lenV (gVar 0)) (gC1 lenV (gVar 1)))) (
  gRet (ret (.bl false))) (
  gSkip)) (
  gSeq (gFor (gSeqI (gVar 1)) (gN 3) (
  gIf (gOrT (gCmpT notInD (gVar 3) (gVar 0)) (gNotT (gTru (gCall [.sh, .sh] 2 (gxxlaw_equal m) (gArg (gIx (gVar 0) (gVar 3)) (gArg (gIx (gVar 1) (gVar 3)) (gNil))))))) (
  gRet (ret (.bl false))) (
  gSkip))) (
  gRet (ret (.bl true))))) (
  gSkip)) (
  gSeq (gIf (gTru (gC1 (isiV "bool") (gVar 1))) (
  gRet (gAndV (gC1 (isiV "bool") (gVar 0)) (gCmp eqD (gVar 0) (gVar 1)))) (
  gSkip)) (
  gSeq (gIf (gTru (gC1 (isiV "str") (gVar 1))) (
  gRet (gAndV (gC1 (isiV "str") (gVar 0)) (gCmp eqD (gVar 0) (gVar 1)))) (
  gSkip)) (
  gSeq (gIf (gTru (gC1 (isiV "int") (gVar 1))) (
  gRet (gAndV (gC1 (isiV "int") (gVar 0)) (gAndV (gNotV (gC1 (isiV "bool") (gVar 0))) (gCmp eqD (gVar 0) (gVar 1))))) (
  gSkip)) (
  gRet (gAndV (gCmp isNonD (gVar 1) (ret .non)) (gCmp isNonD (gVar 0) (ret .non))))))))
def g_is_name : M Fl := 
  gSeq (gIf (gOrT (gNotT (gTru (gC1 (isiV "str") (gVar 0)))) (gNotT (gChainT leD leD (ret (.int 1)) (gC1 lenV (gVar 0)) (ret (.int 8))))) (
  gRet (ret (.bl false))) (
  gSkip)) (
  gSeq (gFor (gSeqI (gVar 0)) (gN 1) (
  gIf (gCmpT notInD (gVar 1) (ret (.str "abcdefghijklmnopqrstuvwxyz"))) (
  gRet (ret (.bl false))) (
  gSkip))) (
  gRet (ret (.bl true))))
def g_check_people : M Fl := 
  gSeq (gIf (gOrT (gNotT (gTru (gC1 (isiV "tuple") (gVar 0)))) (gNotT (gChainT leD leD (ret (.int 2)) (gC1 lenV (gVar 0)) (ret (.int 24))))) (
  gRaise "BadPeople" ["index"] (gOne (bnd (ret (.int 1)) fun x => ofO (negD x)))) (
  gSkip)) (
  gFor (gI1 (gVar 0) enumD) (gT2 (gN 1) (gN 2)) (
  gIf (gOrT (gNotT (gTru (gCall [.sh] 1 g_is_name (gArg (gVar 2) (gNil))))) (gCmpT inD (gVar 2) (alt (gSl slD (gVar 0) (ret none) (gPart (gVar 1))) (gSl slL (gVar 0) (ret none) (gPart (gVar 1)))))) (
  gRaise "BadPeople" ["index"] (gOne (gVar 1))) (
  gSkip)))
def g_is_person : M Fl := 
  gRet (gAndV (gC1 (isiV "str") (gVar 1)) (gCmp inD (gVar 1) (gVar 0)))
def g_are_different : M Fl := 
  gSeq (gFor (gI1 (gVar 1) enumD) (gT2 (gN 2) (gN 3)) (
  gIf (gOrT (gNotT (gTru (gCall [.sh, .sh] 0 g_is_person (gArg (gVar 0) (gArg (gVar 3) (gNil)))))) (gCmpT inD (gVar 3) (alt (gSl slD (gVar 1) (ret none) (gPart (gVar 2))) (gSl slL (gVar 1) (ret none) (gPart (gVar 2)))))) (
  gRet (ret (.bl false))) (
  gSkip))) (
  gRet (ret (.bl true)))
def g_is_pair : M Fl := 
  gRet (gAndV (gC1 (isiV "tuple") (gVar 1)) (gAndV (gCmp eqD (gC1 lenV (gVar 1)) (ret (.int 2))) (gCall [.sh, .sh] 2 g_are_different (gArg (gVar 0) (gArg (gVar 1) (gNil))))))
def g_check_pairs : M Fl := 
  gSeq (gIf (gOrT (gNotT (gTru (gC1 (isiV "list") (gVar 1)))) (gCmpT gtD (gC1 lenV (gVar 1)) (ret (.int 600)))) (
  gRaise "BadPair" ["index"] (gOne (bnd (ret (.int 1)) fun x => ofO (negD x)))) (
  gSkip)) (
  gFor (gI1 (gVar 1) enumD) (gT2 (gN 2) (gN 3)) (
  gIf (gNotT (gTru (gCall [.sh, .sh] 0 g_is_pair (gArg (gVar 0) (gArg (gVar 3) (gNil)))))) (
  gRaise "BadPair" ["index"] (gOne (gVar 2))) (
  gSkip)))
def g_Partyxx_initxx_iss : M Fl := 
  gSeq (gDrop (gCall [.sh] 2 g_check_people (gArg (gVar 1) (gNil)))) (
  gSeq (gDrop (gCall [.sh, .sh] 2 g_check_pairs (gArg (gVar 1) (gArg (gVar 2) (gNil))))) (
  gSeq (gSetF "Party" "_people" 0 (gVar 1)) (
  gSetF "Party" "_closed" 0 (gDComp [3] (mt true) (gSeqI (gVar 2)) (gN 3) (ret true) (gVar 3) (ret (.bl true))))))
def g_Party_barred : M Fl := 
  gRetF (gC1 sortV (gListOf (gFld "Party" "_closed" (gVar 0))))
def g_Partyxx_containsxx : M Fl := 
  gRet (gAndV (gCall [.sh, .sh] 0 g_is_pair (gArg (gFld "Party" "_people" (gVar 0)) (gArg (gVar 1) (gNil)))) (gCmp notInD (gVar 1) (gFld "Party" "_closed" (gVar 0))))
end
end Wk

set_option Elab.async false
set_option linter.all false
set_option maxRecDepth 10000
set_option maxHeartbeats 0
/-! S1: what the laws draw: numbers, people, barred pairs; the laws' equality -/
namespace Wk
open PySem PySem.Spec Qy
abbrev NoX : D → Prop := fun _ => False
theorem more {L : List Int} {i : Nat} {x : Int} (l : L.length = i) (h : ∀ x ∈ L, 0 ≤ x ∧ x < 5040) (a : 0 ≤ x) (b : x < 5040) : (L ++ [x]).length = i + 1 ∧ ∀ y ∈ L ++ [x], 0 ≤ y ∧ y < 5040 := by
  refine ⟨by simp [l], fun y m => ?_⟩
  rcases List.mem_append.1 m with m | m
  · exact h y m
  · rw [List.mem_singleton.1 m]; exact ⟨a, b⟩
theorem draws (c : Int) (n : Nat) (hn : n ≤ 100000) : Gv [.sh, .sh] 4 gxxlaw_draws [.int c, .int n] (fun d => ∃ L : List Int, d = .lst (L.map D.int) ∧ L.length = n ∧ ∀ x ∈ L, 0 ≤ x ∧ x < 5040) NoX := by
  have hr := rng1_i (j := (n : Int)) (by omega) (by omega)
  simp -implicitDefEqProofs [Gv, gxxlaw_draws, rho0, rho1, List.replicate, hr]
  generalize decide (1000000000000000000 ≤ c) = b
  refine for_inv (fun i ρ => ∃ c' s4 s5, ∃ L : List Int, ρ = [.sh (.int c'), .sh (.int n), .sh (.bl b), .ow none (.lst (L.map D.int)), s4, s5] ∧ L.length = i ∧ ∀ x ∈ L, 0 ≤ x ∧ x < 5040) ⟨c, _, _, [], rfl, rfl, by simp⟩ ?_ ?_
  · rintro i d ρ hd ⟨c', s4, s5, L, rfl, l, h⟩
    obtain ⟨rfl, hi⟩ := rng_get hd
    cases b
    · simp -implicitDefEqProofs
      have hx : 0 ≤ (c' + 7919 * (i : Int) + 1) * 48271 % 2147483647 ∧ (c' + 7919 * (i : Int) + 1) * 48271 % 2147483647 < 2147483647 := by omega
      generalize (c' + 7919 * (i : Int) + 1) * 48271 % 2147483647 = x1 at hx
      have hy : 0 ≤ x1 * (x1 / 1009 + 69621) % 2147483647 ∧ x1 * (x1 / 1009 + 69621) % 2147483647 < 2147483647 := by omega
      generalize x1 * (x1 / 1009 + 69621) % 2147483647 = x2 at hy
      generalize x2 * (x2 / 2003 + 40692) % 2147483399 = x3
      exact ⟨.inl (by omega), .inl (by omega), by omega, c', _, _, L ++ [x3 / 16 % 5040], ⟨rfl, by simp, rfl, rfl⟩, more l h (by omega) (by omega)⟩
    · simp -implicitDefEqProofs
      exact ⟨by omega, _, _, _, L ++ [c' % 5040], ⟨rfl, by simp, rfl, rfl⟩, more l h (by omega) (by omega)⟩
  · rintro ρ ⟨c', s4, s5, L, rfl, l, h⟩
    simp -implicitDefEqProofs
    exact ⟨L, rfl, by rw [l, rng_len]; omega, h⟩
theorem cell (ns : List Int) (k : Nat) : Gv [.sh, .sh] 0 gxxlaw_cell [.scr ns, .int k] (fun d => ∃ c : Int, d = .int c) NoX := by
  simp -implicitDefEqProofs [Gv, gxxlaw_cell, rho0, rho1, List.replicate]
  by_cases h : k < ns.length
  · have e := ix_scr (List.getElem?_eq_getElem h)
    simp -implicitDefEqProofs [h, e]
  · simp -implicitDefEqProofs [h]
abbrev lett : PySem.Str := "abcdefghijklmnopqrstuvwxyz"
def low (c : Nat) : Bool := decide (c ∈ lett.cps.toList)
/-- a name -/
def nameB (s : PySem.Str) : Bool := decide (1 ≤ s.length) && (decide (s.length ≤ 8) && s.cps.toList.all low)
theorem ix_int {L : List Int} (i : Int) (k : Nat) (e : i = (k : Nat)) (h : k < L.length) : ixD (.lst (L.map D.int)) (.int i) = some (.int (L.getD k 0)) := by
  subst e
  apply ix_lst
  simp [List.getD, h]
theorem getD_bd {L : List Int} (h : ∀ x ∈ L, 0 ≤ x ∧ x < 5040) (k : Nat) : 0 ≤ L.getD k 0 ∧ L.getD k 0 < 5040 := by
  by_cases hk : k < L.length
  · have := h _ (List.getElem_mem hk)
    simpa [List.getD, hk] using this
  · have : L.getD k 0 = 0 := by simp [List.getD, hk]
    omega
/-- the letter at i -/
def ltr (i : Int) : Nat := (97 + i).toNat
theorem lett_cps : lett.cps.toList = (List.range 26).map fun i => 97 + i := by decide +kernel
theorem lett_get {i : Int} (a : 0 ≤ i) (b : i < 26) : lett.cps.toList[i.toNat]? = some (ltr i) := by
  rw [lett_cps]
  have : i.toNat < 26 := by omega
  simp [this, ltr]
  omega
theorem low_ltr {i : Int} (a : 0 ≤ i) (b : i < 26) : low (ltr i) = true := by
  unfold low
  exact decide_eq_true (List.mem_of_getElem? (lett_get a b))
theorem ok_low {c : Nat} (h : low c = true) : c < 123 := by
  unfold low at h
  have h := of_decide_eq_true h
  rw [lett_cps] at h
  simp at h
  omega
theorem ix_lett {i : Int} (a : 0 ≤ i) (b : i < 26) : ixD (.str lett) (.int i) = some (.str ⟨#[ltr i]⟩) := by
  obtain ⟨k, rfl⟩ : ∃ k : Nat, i = (k : Int) := ⟨i.toNat, by omega⟩
  have e := lett_get a b
  simp only [Int.toNat_natCast] at e
  show (if lett.length ≤ 16777216 then (L2.atI lett.cps.toList (k : Int)).map (fun c => D.str ⟨#[c]⟩) else none) = _
  rw [if_pos (by decide), at_nat e]; rfl
theorem sh_low {s : PySem.Str} {n : Nat} (h : s.length ≤ n) (l : ∀ c ∈ s.cps.toList, low c = true) : Sh n s := by
  refine ⟨h, ?_⟩
  unfold PyData.strOk
  rw [← Array.all_toList]
  apply List.all_eq_true.2
  intro c m
  have := ok_low (l c m)
  simp; omega
theorem sh_name {s : PySem.Str} (h : nameB s = true) : Sh 8 s := by
  simp only [nameB, Bool.and_eq_true, decide_eq_true_eq] at h
  exact sh_low h.2.1 (List.all_eq_true.1 h.2.2)
theorem app_cps (s t : PySem.Str) : (s ++ t).cps.toList = s.cps.toList ++ t.cps.toList := by
  show (s.cps ++ t.cps).toList = _
  exact Array.toList_append
/-- a name as it is drawn: what is seven z and a sign is not -/
def Drawn (s : PySem.Str) : Prop := nameB s = true ∧ (6 ≤ s.length → s.cps.toList[5]? = some 97)
def zed (k : Nat) : PySem.Str := ("zzzzzzz" : PySem.Str) ++ ⟨#[ltr k]⟩
theorem zed_cps (k : Nat) : (zed k).cps.toList = [122, 122, 122, 122, 122, 122, 122, ltr k] := by
  unfold zed
  rw [app_cps]
  rfl
theorem zed_len (k : Nat) : (zed k).length = 8 := by unfold zed; rw [app_len]; rfl
theorem zed_name {k : Nat} (h : k < 26) : nameB (zed k) = true := by
  simp only [nameB, Bool.and_eq_true, decide_eq_true_eq, List.all_eq_true]
  refine ⟨by rw [zed_len]; omega, by rw [zed_len]; omega, ?_⟩
  rw [zed_cps]
  intro c m
  have z : low 122 = true := by decide +kernel
  simp at m
  rcases m with rfl | rfl
  · exact z
  · exact low_ltr (by omega) (by omega)
theorem zed_inj {j k : Nat} (h : zed j = zed k) : j = k := by
  have := congrArg (fun s : PySem.Str => s.cps.toList[7]?) h
  simp only [zed_cps] at this
  simp [ltr] at this
  omega
theorem zed_drawn {k : Nat} (h : Drawn (zed k)) : False := by
  have := h.2 (by rw [zed_len]; omega)
  rw [zed_cps] at this
  simp at this
/-- people as the laws draw them -/
def Ppl (S : List PySem.Str) : Prop := S.Nodup ∧ ∀ s ∈ S, nameB s = true
/-- no name that the laws make up themselves -/
def Far (S : List PySem.Str) : Prop := ∀ s ∈ S, Drawn s ∨ ∃ k, k < 26 ∧ s = zed k
theorem Far.no {S : List PySem.Str} (h : Far S) {t : PySem.Str} {c : Nat} (l : 6 ≤ t.length) (e : t.cps.toList[5]? = some c) (c1 : c ≠ 97) (c2 : c ≠ 122) : t ∉ S := fun m => by
  rcases h t m with h | ⟨k, _, rfl⟩
  · have := h.2 l
    rw [e] at this
    exact c1 (Option.some.inj this)
  · rw [zed_cps] at e
    simp at e
    exact c2 e.symm
theorem in_strL (s : PySem.Str) (S : List PySem.Str) : inD (.str s) (.lst (S.map D.str)) = some (decide (s ∈ S)) := by
  refine (if_pos ?_).trans ?_
  · simp [flatD]
  · congr 1
    rw [Bool.eq_iff_iff]
    simp [deq, toP, eqv_str]
theorem in_strT (s : PySem.Str) (S : List PySem.Str) : inD (.str s) (.tup (S.map D.str)) = some (decide (s ∈ S)) := by
  refine (if_pos ?_).trans ?_
  · simp [flatD]
  · congr 1
    rw [Bool.eq_iff_iff]
    simp [deq, toP, eqv_str]
/-- what the loop that writes a name keeps -/
def Wr (j : Nat) (M : Int) (s : PySem.Str) : Prop := s.length = j ∧ (∀ c ∈ s.cps.toList, low c = true) ∧ 0 ≤ M ∧ (j = 0 → M < 26 * (26 * (26 * (26 * 26)))) ∧ (j = 1 → M < 26 * (26 * (26 * 26))) ∧ (j = 2 → M < 26 * (26 * 26)) ∧ (j = 3 → M < 26 * 26) ∧ (j = 4 → M < 26) ∧ (5 ≤ j → M = 0) ∧ (6 ≤ j → s.cps.toList[5]? = some 97)
theorem wr0 {M : Int} (a : 0 ≤ M) (b : M < 26 * (26 * (26 * (26 * 26)))) : Wr 0 M "" := by
  refine ⟨rfl, ?_, a, fun _ => b, by omega, by omega, by omega, by omega, by omega, by omega⟩
  intro c m
  rw [show ("" : PySem.Str).cps.toList = [] from rfl] at m
  cases m
theorem wr1 {j : Nat} {M : Int} {s : PySem.Str} (h : Wr j M s) : Wr (j + 1) (M / 26) (s ++ ⟨#[ltr (M % 26)]⟩) := by
  obtain ⟨ls, hs, m0, b0, b1, b2, b3, b4, b5, b6⟩ := h
  have lsz : s.cps.size = j := ls
  refine ⟨by rw [app_len, one_len, ls], ?_, by omega, by omega, by omega, by omega, by omega, by omega, by omega, ?_⟩
  · intro c m
    rw [app_cps] at m
    rcases List.mem_append.1 m with m | m
    · exact hs c m
    · have : c = ltr (M % 26) := by simpa using m
      rw [this]; exact low_ltr (by omega) (by omega)
  · intro hj6
    rw [app_cps]
    by_cases h5 : j = 5
    · have : M = 0 := b5 (by omega)
      subst this
      rw [List.getElem?_append_right (by simp; omega)]
      have : 5 - s.cps.toList.length = 0 := by simp; omega
      rw [this]
      rfl
    · rw [List.getElem?_append_left (by simp; omega)]
      exact b6 (by omega)
theorem people (c : Int) (n : Nat) (hn : n ≤ 26) : Gv [.sh, .sh] 8 gxxlaw_people [.int c, .int n] (fun d => ∃ S : List PySem.Str, d = .lst (S.map D.str) ∧ S.length = n ∧ Ppl S ∧ Far S) NoX := by
  have hr := rng1_i (j := (n : Int)) (by omega) (by omega)
  simp -implicitDefEqProofs [Gv, gxxlaw_people, rho0, rho1, List.replicate]
  have e2 : (2 : Int) * n = ((2 * n : Nat) : Int) := by omega
  rw [e2]
  refine gv_call2 (draws c (2 * n) (by omega)) ?_ (fun _ h => h.elim)
  rintro d ⟨L, rfl, hl, hL⟩
  simp -implicitDefEqProofs [hr]
  refine for_inv (fun i ρ => ∃ s5 s6 s7 s8 s9, ∃ S : List PySem.Str, ρ = [.sh (.int c), .sh (.int n), .sh (.str lett), .sh (.lst (L.map D.int)), .ow none (.lst (S.map D.str)), s5, s6, s7, s8, s9] ∧ S.length = i ∧ S.Nodup ∧ ∀ s ∈ S, Drawn s ∨ ∃ k, k < i ∧ s = zed k) ⟨_, _, _, _, _, [], rfl, rfl, by simp, by simp⟩ ?_ ?_
  · rintro i d ρ hd ⟨s5, s6, s7, s8, s9, S, rfl, l, nd, h⟩
    obtain ⟨rfl, hi⟩ := rng_get hd
    have i1 := ix_int (L := L) (2 * (i : Int)) (2 * i) (by omega) (by omega)
    have i2 := ix_int (L := L) (2 * (i : Int) + 1) (2 * i + 1) (by omega) (by omega)
    have h1 := getD_bd hL (2 * i)
    have h2 := getD_bd hL (2 * i + 1)
    generalize L.getD (2 * i) 0 = a1 at *
    generalize L.getD (2 * i + 1) 0 = a2 at *
    simp -implicitDefEqProofs [i1, i2]
    refine ⟨by omega, ?_⟩
    generalize hN : a1 * 5040 + a2 = N at *
    have hz : 0 ≤ 1 + N % 8 ∧ 1 + N % 8 ≤ 8 := by omega
    generalize hsz : 1 + N % 8 = sz at *
    have hM : 0 ≤ N / 8 ∧ N / 8 < 26 * (26 * (26 * (26 * 26))) := by omega
    generalize N / 8 = M0 at *
    refine for_inv (fun j ρ => ∃ M s9, ∃ s : PySem.Str, ρ = [.sh (.int c), .sh (.int n), .sh (.str lett), .sh (.lst (L.map D.int)), .ow none (.lst (S.map D.str)), .sh (.int i), .sh (.int M), .sh (.int sz), .sh (.str s), s9] ∧ Wr j M s)
      ⟨_, _, "", rfl, wr0 hM.1 hM.2⟩ ?_ ?_
    · rintro j d ρ hd ⟨M, s9, s, rfl, w⟩
      obtain ⟨rfl, hj⟩ := rng_get hd
      have ha := add_str (s := s) (t := ⟨#[ltr (M % 26)]⟩) (by rw [one_len, w.1]; omega)
      have hz := ix_lett (i := M % 26) (by omega) (by omega)
      simp -implicitDefEqProofs [hz, ha]
      exact ⟨_, _, _, ⟨rfl, rfl, rfl⟩, wr1 w⟩
    · rintro ρ ⟨M, s9, s, rfl, ls, hs, m0, b0, b1, b2, b3, b4, b5, b6⟩
      rw [rng_len] at ls b6
      have dr : Drawn s := by
        refine ⟨?_, fun h8 => b6 (by omega)⟩
        simp only [nameB, Bool.and_eq_true, decide_eq_true_eq, List.all_eq_true]
        exact ⟨by omega, by omega, hs⟩
      have hin := in_strL s S
      have hz := ix_lett (i := i) (by omega) (by omega)
      have ha : addD (.str "zzzzzzz") (.str ⟨#[ltr i]⟩) = some (.str (zed i)) := add_str (by rw [one_len]; decide)
      have up : ∀ s ∈ S, Drawn s ∨ ∃ k, k < i + 1 ∧ s = zed k := fun s m => (h s m).imp (fun x => x) fun ⟨k, a, b⟩ => ⟨k, by omega, b⟩
      by_cases hm : s ∈ S
      · simp -implicitDefEqProofs [hin, hm, hz, ha]
        refine ⟨by omega, _, _, _, _, _, S ++ [zed i], ⟨by simp, rfl, rfl, rfl, rfl, rfl⟩, by simp [l], ?_, ?_⟩
        · rw [List.nodup_append]
          refine ⟨nd, by simp, ?_⟩
          intro a ma b mb e
          rw [List.mem_singleton.1 mb] at e
          subst e
          rcases h _ ma with h | ⟨k, hk, e⟩
          · exact zed_drawn h
          · have := zed_inj e; omega
        · intro t m
          rcases List.mem_append.1 m with m | m
          · exact up t m
          · exact .inr ⟨i, by omega, List.mem_singleton.1 m⟩
      · simp -implicitDefEqProofs [hin, hm]
        refine ⟨by omega, _, _, _, _, _, S ++ [s], ⟨by simp, rfl, rfl, rfl, rfl, rfl⟩, by simp [l], ?_, ?_⟩
        · rw [List.nodup_append]
          refine ⟨nd, by simp, ?_⟩
          intro a ma b mb e
          rw [List.mem_singleton.1 mb] at e
          subst e
          exact hm ma
        · intro t m
          rcases List.mem_append.1 m with m | m
          · exact up t m
          · exact .inl (by rw [List.mem_singleton.1 m]; exact dr)
  · rintro ρ ⟨s5, s6, s7, s8, s9, S, rfl, l, nd, h⟩
    rw [rng_len] at l h
    simp -implicitDefEqProofs
    refine ⟨S, rfl, by omega, ⟨nd, fun s m => ?_⟩, fun s m => (h s m).imp (fun x => x) fun ⟨k, hk, e⟩ => ⟨k, by omega, e⟩⟩
    rcases h s m with h | ⟨k, hk, rfl⟩
    · exact h.1
    · exact zed_name (by omega)
end Wk

set_option Elab.async false
set_option linter.all false
set_option maxRecDepth 10000
set_option maxHeartbeats 0
/-! S2: barred pairs drawn; the laws' equality; names, people, pairs -/
namespace Wk
open PySem PySem.Spec Qy
theorem ne_sh {n m : Nat} {i j : PySem.Str} (a : Sh n i) (b : Sh m j) : neD (.str i) (.str j) = some (!decide (i = j)) := by
  unfold neD deq
  rw [okP_sh a, okP_sh b]
  simp only [and_self, if_true, toP, PyData.eqv]
  rfl
theorem ix_any {ns : List D} {i : Int} {P : D → Prop} (h : ∀ x ∈ ns, P x) (a : 0 ≤ i) (b : i < ns.length) : ∃ x, ixD (.lst ns) (.int i) = some x ∧ P x := by
  obtain ⟨k, rfl⟩ : ∃ k : Nat, i = (k : Int) := ⟨i.toNat, by omega⟩
  have hk : k < ns.length := by omega
  exact ⟨_, ix_lst (List.getElem?_eq_getElem hk), h _ (List.getElem_mem hk)⟩
theorem ix_str' {S : List PySem.Str} (i : Int) (k : Nat) (e : i = (k : Nat)) (h : k < S.length) : ixD (.lst (S.map D.str)) (.int i) = some (.str S[k]) := by
  subst e
  apply ix_lst
  simp [h]
theorem nd_inj {α : Type} {S : List α} (h : S.Nodup) {i j : Nat} {hi : i < S.length} {hj : j < S.length} (e : S[i] = S[j]) : i = j := by
  unfold List.Nodup at h
  rw [List.pairwise_iff_getElem] at h
  rcases Nat.lt_trichotomy i j with l | l | l
  · exact (h i j hi hj l e).elim
  · exact l
  · exact (h j i hj hi l e.symm).elim
theorem nd_rev {α : Type} {S : List α} (h : S.Nodup) : S.reverse.Nodup := by
  unfold List.Nodup at h ⊢
  rw [List.pairwise_reverse]
  exact h.imp fun n e => n e.symm
/-- pairs of different people -/
def Prs (S : List PySem.Str) (P : List Pr) : Prop := ∀ p ∈ P, p.1 ∈ S ∧ p.2 ∈ S ∧ p.1 ≠ p.2
/-- what the loop that draws barred pairs keeps -/
def Bar (S : List PySem.Str) (i : Nat) (P : List Pr) : Prop := P.length ≤ i ∧ P.Nodup ∧ ∀ p ∈ P, ∃ k, ∃ h1 : k / S.length < S.length, ∃ h2 : k % S.length < S.length, k < i ∧ p = (S[k / S.length], S[k % S.length]) ∧ p.1 ≠ p.2
theorem Bar.keep {S : List PySem.Str} {i : Nat} {P : List Pr} (h : Bar S i P) : Bar S (i + 1) P := ⟨by have := h.1; omega, h.2.1, fun p m => by
  obtain ⟨k, a, b, c, e, f⟩ := h.2.2 p m
  exact ⟨k, a, b, by omega, e, f⟩⟩
theorem Bar.add {S : List PySem.Str} {i : Nat} {P : List Pr} (nd : S.Nodup) (h : Bar S i P) (q1 : i / S.length < S.length) (q2 : i % S.length < S.length) (ne : S[i / S.length] ≠ S[i % S.length]) : Bar S (i + 1) (P ++ [(S[i / S.length], S[i % S.length])]) := by
  refine ⟨by have := h.1; simp; omega, ?_, ?_⟩
  · rw [List.nodup_append]
    refine ⟨h.2.1, by simp, ?_⟩
    intro p mp q mq e
    rw [List.mem_singleton.1 mq] at e
    obtain ⟨k, a, b, lt, e', _⟩ := h.2.2 p mp
    rw [e'] at e
    injection e with e1 e2
    have d1 := nd_inj nd e1
    have d2 := nd_inj nd e2
    have z1 := Nat.div_add_mod k S.length
    have z2 := Nat.div_add_mod i S.length
    rw [d1, d2, z2] at z1
    omega
  · intro p m
    rcases List.mem_append.1 m with m | m
    · exact h.keep.2.2 p m
    · rw [List.mem_singleton.1 m]
      exact ⟨i, q1, q2, by omega, rfl, ne⟩
theorem Bar.prs {S : List PySem.Str} {i : Nat} {P : List Pr} (h : Bar S i P) : Prs S P := fun p m => by
  obtain ⟨k, a, b, _, e, f⟩ := h.2.2 p m
  rw [e] at f ⊢
  exact ⟨List.getElem_mem a, List.getElem_mem b, f⟩
theorem barred (c : Int) (S : List PySem.Str) (hS : Ppl S) (h1 : 1 ≤ S.length) (h24 : S.length ≤ 24) : Gv [.sh, .sh] 7 gxxlaw_barred [.int c, .lst (S.map D.str)] (fun d => ∃ P : List Pr, d = .lst (P.map pd) ∧ P.Nodup ∧ Prs S P ∧ P.length ≤ S.length * S.length) NoX := by
  have hnn : S.length * S.length ≤ 576 := Nat.mul_le_mul h24 h24
  have hc : (S.length : Int) * (S.length : Int) = ((S.length * S.length : Nat) : Int) := by simp
  have hr := rng1_i (j := ((S.length * S.length : Nat) : Int)) (by omega) (by omega)
  simp -implicitDefEqProofs [Gv, gxxlaw_barred, rho0, rho1, List.replicate]
  refine ⟨by omega, ?_⟩
  rw [hc]
  have e2 : ((S.length * S.length : Nat) : Int) + 1 = ((S.length * S.length + 1 : Nat) : Int) := by omega
  rw [e2]
  refine gv_call2 (draws c (S.length * S.length + 1) (by omega)) ?_ (fun _ h => h.elim)
  rintro d ⟨L, rfl, hl, hL⟩
  have i0 := ix_int (L := L) 0 0 rfl (by omega)
  have b0 := getD_bd hL 0
  generalize L.getD 0 0 = a0 at *
  obtain ⟨w, hw, w', rfl⟩ : ∃ w, ixD (.lst [D.int 0, D.int 1, D.int 2, D.int 3, D.int 5, D.int 8]) (.int (a0 % 6)) = some w ∧ ∃ z : Int, w = .int z := by
    refine ix_any (P := fun w => ∃ z : Int, w = .int z) (fun x m => ?_) (by omega) (by simp; omega)
    simp only [List.mem_cons, List.not_mem_nil, or_false] at m
    rcases m with rfl | rfl | rfl | rfl | rfl | rfl <;> exact ⟨_, rfl⟩
  simp -implicitDefEqProofs [i0, hw]
  refine ⟨by omega, ?_⟩
  rw [hc]
  refine ⟨by omega, ?_⟩
  refine for_inv (fun i ρ => ∃ s6 s7 s8, ∃ P : List Pr, ρ = [.sh (.int c), .sh (.lst (S.map D.str)), .sh (.int S.length), .sh (.lst (L.map D.int)), .sh (.int w'), .ow none (.lst (P.map pd)), s6, s7, s8] ∧ Bar S i P) ⟨_, _, _, [], rfl, by simp, by simp, by simp⟩ ?_ ?_
  · rintro i d ρ hd ⟨s6, s7, s8, P, rfl, hP⟩
    obtain ⟨rfl, hi⟩ := rng_get hd
    have hi' : i < S.length * S.length := by omega
    have lP := hP.1
    have q1 : i / S.length < S.length := Nat.div_lt_of_lt_mul hi'
    have q2 : i % S.length < S.length := Nat.mod_lt _ (by omega)
    have x1 := ix_str' (S := S) ((i : Int) / (S.length : Int)) (i / S.length) (by simp) q1
    have x2 := ix_str' (S := S) ((i : Int) % (S.length : Int)) (i % S.length) (by simp) q2
    have x3 := ix_int (L := L) ((i : Int) + 1) (i + 1) (by simp) (by omega)
    have hn := ne_sh (sh_name (hS.2 _ (List.getElem_mem q1))) (sh_name (hS.2 _ (List.getElem_mem q2)))
    simp -implicitDefEqProofs [x1, x2, x3, hn]
    refine ⟨⟨by omega, by omega⟩, by omega, ?_⟩
    split
    · exact ⟨_, _, _, P, ⟨rfl, rfl, rfl, rfl⟩, hP.keep⟩
    · next hne =>
      split
      · exact ⟨by omega, _, _, _, P ++ [(S[i / S.length], S[i % S.length])], ⟨by simp [pd], rfl, rfl, rfl⟩, hP.add hS.1 q1 q2 hne⟩
      · exact ⟨_, _, _, P, ⟨rfl, rfl, rfl, rfl⟩, hP.keep⟩
  · rintro ρ ⟨s6, s7, s8, P, rfl, hP⟩
    rw [rng_len] at hP
    have lP := hP.1
    simp -implicitDefEqProofs [i0]
    split
    · exact ⟨P.reverse, by simp, nd_rev hP.2.1, fun p m => hP.prs p (by simpa using m), by simp; omega⟩
    · exact ⟨P, rfl, hP.2.1, hP.prs, by omega⟩
end Wk

set_option Elab.async false
set_option linter.all false
set_option maxRecDepth 10000
set_option maxHeartbeats 0
/-! S3: the laws' equality -/
namespace Wk
open PySem PySem.Spec Qy
open L2 (Key)
/-- equal data, below a depth -/
def EqP : Nat → D → D → Prop
  | 0, _, _ => False
  | m + 1, a, d => match d with
    | .non => a = .non
    | .bl b => a = .bl b
    | .int i => a = .int i
    | .str s => a = .str s ∧ Sh 16777216 s
    | .lst ds => ∃ xs : List D, a = .lst xs ∧ xs.length = ds.length ∧ ds.length ≤ 16777216 ∧ ∀ (i : Nat) (x y : D), xs[i]? = some x → ds[i]? = some y → EqP m x y
    | .tup ds => ∃ xs : List D, a = .tup xs ∧ xs.length = ds.length ∧ ds.length ≤ 16777216 ∧ ∀ (i : Nat) (x y : D), xs[i]? = some x → ds[i]? = some y → EqP m x y
    | .dk ks ds => ∃ ka xs, a = .dk ka xs ∧ ka.length = ks.length ∧ ∀ k ∈ ks, ∃ x y, getD' ka xs k = some x ∧ getD' ks ds k = some y ∧ EqP m x y
    | .dt ks ds => ∃ ka xs, a = .dt ka xs ∧ ka.length = ks.length ∧ ∀ k ∈ ks, ∃ x y, getD' ka xs k = some x ∧ getD' ks ds k = some y ∧ EqP m x y
    | _ => False
theorem at_all {xs : List D} (i : Nat) : L2.atI xs (i : Int) = xs[i]? := by
  cases e : xs[i]? with
  | some x => exact at_nat e
  | none =>
    unfold L2.atI L2.ixN
    have := List.getElem?_eq_none_iff.1 e
    simp; omega
theorem all_true {ys : List D} {ds : List D} (h : All2 (fun _ y => y = .bl true) ds ys) : allV (.lst ys) = some (.bl true) := by
  have : blsD ys = some (ys.map fun _ => true) := by
    induction ds generalizing ys with
    | nil => cases ys with
      | nil => rfl
      | cons _ _ => exact h.elim
    | cons d ds ih => cases ys with
      | nil => exact h.elim
      | cons y ys =>
        obtain ⟨rfl, h2⟩ := h
        simp only [blsD, ih h2, Option.map_some, List.map_cons]
  rw [s_allV, this]
  simp
theorem eq_bl (a b : Bool) : eqD (.bl a) (.bl b) = some (decide (a = b)) := by
  unfold eqD deq
  rw [show okP (.bl a) = true from rfl, show okP (.bl b) = true from rfl]
  simp only [and_self, if_true, toP, PyData.eqv]
  cases a <;> cases b <;> rfl
theorem key1_kD (k : Key) : key1 (kD k) = some k := by cases k <;> rfl
theorem key1s_kD : ∀ ks : List Key, key1s (ks.map kD) = some ks
  | [] => rfl
  | k :: ks => by simp only [List.map_cons, key1s, key1_kD, key1s_kD ks, Option.bind_some, Option.map_some]
theorem look_dk (ks : List Key) (xs : List D) (k : Key) : lookD (.dk ks xs) (kD k) = some (getD' ks xs k) := by
  show (key1 (kD k)).map _ = _
  rw [key1_kD]; rfl
theorem look_dt (ks : List (List Key)) (xs : List D) (k : List Key) : lookD (.dt ks xs) (kTD k) = some (getD' ks xs k) := by
  show (key1s (k.map kD)).map _ = _
  rw [key1s_kD]; rfl
theorem ni_dk (ks : List Key) (xs : List D) (k : Key) : notInD (kD k) (.dk ks xs) = some (!(getD' ks xs k).isSome) := by
  show ((lookD (.dk ks xs) (kD k)).map _).map _ = _
  rw [look_dk]; rfl
theorem ni_dt (ks : List (List Key)) (xs : List D) (k : List Key) : notInD (kTD k) (.dt ks xs) = some (!(getD' ks xs k).isSome) := by
  show ((lookD (.dt ks xs) (kTD k)).map _).map _ = _
  rw [look_dt]; rfl
theorem ix_dk (ks : List Key) (xs : List D) (k : Key) : ixD (.dk ks xs) (kD k) = getD' ks xs k := by
  show (lookD (.dk ks xs) (kD k)).bind id = _
  rw [look_dk]; rfl
theorem ix_dt (ks : List (List Key)) (xs : List D) (k : List Key) : ixD (.dt ks xs) (kTD k) = getD' ks xs k := by
  show (lookD (.dt ks xs) (kTD k)).bind id = _
  rw [look_dt]; rfl
theorem lenV_dk (ks : List Key) (xs : List D) : lenV (.dk ks xs) = some (.int (ks.length : Nat)) := rfl
theorem lenV_dt (ks : List (List Key)) (xs : List D) : lenV (.dt ks xs) = some (.int (ks.length : Nat)) := rfl
theorem seqD_dk (ks : List Key) (xs : List D) : seqD (.dk ks xs) = some (ks.map kD) := rfl
theorem seqD_dt (ks : List (List Key)) (xs : List D) : seqD (.dt ks xs) = some (ks.map kTD) := rfl
theorem equal : ∀ (m : Nat) (a d : D), EqP m a d → Gv [.sh, .sh] 2 (gxxlaw_equal m) [a, d] (fun r => r = .bl true) NoX
  | 0, _, _, h => h.elim
  | m + 1, a, d, h => by
    have key : ∀ (xs ds : List D) (s t : D), (∀ i : Nat, ixD s (.int i) = xs[i]?) → (∀ i : Nat, ixD t (.int i) = ds[i]?) → xs.length = ds.length → ds.length ≤ 16777216 → (∀ (i : Nat) (x y : D), xs[i]? = some x → ds[i]? = some y → EqP m x y) → Ev (compR [2] (gN 2) (ret true) (gCall [.sh, .sh] 2 (gxxlaw_equal m) (gArg (gIx (gVar 0) (gVar 2)) (gArg (gIx (gVar 1) (gVar 2)) gNil))) (rng 0 ds.length) [.sh s, .sh t, .no, .no]) (fun y _ => allV y = some (.bl true)) (fun _ _ => False) := by
      intro xs ds s t hs ht hl hb hp
      refine comp_inv (τ := [.sh s, .sh t, .no, .no]) (fun d y => y = .bl true) rfl rfl rfl (by rw [rng_len]; omega) ?_ (fun ys hy => all_true hy)
      intro d hd
      obtain ⟨i, hi⟩ := List.mem_iff_getElem?.1 hd
      obtain ⟨rfl, hi⟩ := rng_get hi
      have l1 : i < ds.length := by omega
      have l2 : i < xs.length := by omega
      have e1 := hs i
      have e2 := ht i
      rw [List.getElem?_eq_getElem l2] at e1
      rw [List.getElem?_eq_getElem l1] at e2
      simp -implicitDefEqProofs [e1, e2]
      exact gv_call2 (equal m _ _ (hp i _ _ (List.getElem?_eq_getElem l2) (List.getElem?_eq_getElem l1))) (fun d h => ⟨h, rfl⟩) (fun _ h => h)
    cases d with
    | lst ds =>
      obtain ⟨xs, rfl, hl, hb, hp⟩ := h
      have hr := rng1_i (j := (ds.length : Int)) (by omega) (by omega)
      simp -implicitDefEqProofs [Gv, gxxlaw_equal, rho0, rho1, List.replicate, hl, hr]
      exact (key xs ds (.lst xs) (.lst ds) (fun i => at_all i) (fun i => at_all i) hl hb hp).mono (fun y ρ hy => by rw [hy]; simp -implicitDefEqProofs) (fun _ _ h => h)
    | tup ds =>
      obtain ⟨xs, rfl, hl, hb, hp⟩ := h
      have hr := rng1_i (j := (ds.length : Int)) (by omega) (by omega)
      simp -implicitDefEqProofs [Gv, gxxlaw_equal, rho0, rho1, List.replicate, hl, hr]
      exact (key xs ds (.tup xs) (.tup ds) (fun i => at_all i) (fun i => at_all i) hl hb hp).mono (fun y ρ hy => by rw [hy]; simp -implicitDefEqProofs) (fun _ _ h => h)
    | non => obtain rfl := h; simp -implicitDefEqProofs [Gv, gxxlaw_equal, rho0, rho1, List.replicate]
    | bl b => obtain rfl := h; simp -implicitDefEqProofs [Gv, gxxlaw_equal, rho0, rho1, List.replicate, eq_bl]
    | int i => obtain rfl := h; simp -implicitDefEqProofs [Gv, gxxlaw_equal, rho0, rho1, List.replicate]
    | str s =>
      obtain ⟨rfl, h⟩ := h
      have := eq_sh (i := s) (j := s) h h
      simp -implicitDefEqProofs [Gv, gxxlaw_equal, rho0, rho1, List.replicate, this]
    | dk ks ds =>
      obtain ⟨ka, xs, rfl, hl, hp⟩ := h
      simp -implicitDefEqProofs [Gv, gxxlaw_equal, rho0, rho1, List.replicate, hl, lenV_dk, seqD_dk]
      refine for_inv (fun i ρ => ∃ s2 s3, ρ = [.sh (.dk ka xs), .sh (.dk ks ds), s2, s3]) ⟨_, _, rfl⟩ ?_ ?_
      · rintro i d ρ hd ⟨s2, s3, rfl⟩
        obtain ⟨k, mk, rfl⟩ := List.mem_map.1 (List.mem_of_getElem? hd)
        obtain ⟨x, y, hx, hy, hq⟩ := hp k mk
        simp -implicitDefEqProofs [ni_dk, ix_dk, hx, hy]
        refine gv_call2 (equal m _ _ hq) ?_ (fun _ h => h.elim)
        rintro _ rfl
        simp -implicitDefEqProofs
      · rintro ρ ⟨s2, s3, rfl⟩
        simp -implicitDefEqProofs
    | dt ks ds =>
      obtain ⟨ka, xs, rfl, hl, hp⟩ := h
      simp -implicitDefEqProofs [Gv, gxxlaw_equal, rho0, rho1, List.replicate, hl, lenV_dt, seqD_dt]
      refine for_inv (fun i ρ => ∃ s2 s3, ρ = [.sh (.dt ka xs), .sh (.dt ks ds), s2, s3]) ⟨_, _, rfl⟩ ?_ ?_
      · rintro i d ρ hd ⟨s2, s3, rfl⟩
        obtain ⟨k, mk, rfl⟩ := List.mem_map.1 (List.mem_of_getElem? hd)
        obtain ⟨x, y, hx, hy, hq⟩ := hp k mk
        simp -implicitDefEqProofs [ni_dt, ix_dt, hx, hy]
        refine gv_call2 (equal m _ _ hq) ?_ (fun _ h => h.elim)
        rintro _ rfl
        simp -implicitDefEqProofs
      · rintro ρ ⟨s2, s3, rfl⟩
        simp -implicitDefEqProofs
    | _ => exact h.elim
/-- plain data, below a depth -/
def Pl : Nat → D → Prop
  | 0, _ => False
  | m + 1, d => match d with
    | .non => True
    | .bl _ => True
    | .int _ => True
    | .str s => Sh 16777216 s
    | .lst xs => xs.length ≤ 16777216 ∧ ∀ x ∈ xs, Pl m x
    | .tup xs => xs.length ≤ 16777216 ∧ ∀ x ∈ xs, Pl m x
    | .dk [] [] => True
    | _ => False
theorem EqP.refl : ∀ {m : Nat} {d : D}, Pl m d → EqP m d d
  | 0, _, h => h.elim
  | m + 1, d, h => by
    cases d with
    | lst xs => exact ⟨xs, rfl, rfl, h.1, fun i x y a b => by rw [a] at b; cases b; exact EqP.refl (h.2 _ (List.mem_of_getElem? a))⟩
    | tup xs => exact ⟨xs, rfl, rfl, h.1, fun i x y a b => by rw [a] at b; cases b; exact EqP.refl (h.2 _ (List.mem_of_getElem? a))⟩
    | non => exact rfl
    | bl _ => exact rfl
    | int _ => exact rfl
    | str s => exact ⟨rfl, h⟩
    | dk ks xs =>
      cases ks with
      | nil => cases xs with
        | nil => exact ⟨[], [], rfl, rfl, fun k m => by cases m⟩
        | cons _ _ => exact h.elim
      | cons _ _ => exact h.elim
    | _ => exact h.elim
theorem equal_refl (m : Nat) (d : D) (h : Pl m d) : Gv [.sh, .sh] 2 (gxxlaw_equal m) [d, d] (fun r => r = .bl true) NoX := equal m d d (.refl h)
theorem Pl.mono : ∀ {m n : Nat} {d : D}, m ≤ n → Pl m d → Pl n d
  | 0, _, _, _, h => h.elim
  | m + 1, 0, _, l, _ => by omega
  | m + 1, n + 1, d, l, h => by
    cases d with
    | lst xs => exact ⟨h.1, fun x mx => Pl.mono (by omega) (h.2 x mx)⟩
    | tup xs => exact ⟨h.1, fun x mx => Pl.mono (by omega) (h.2 x mx)⟩
    | dk ks xs =>
      cases ks with
      | nil => cases xs with
        | nil => trivial
        | cons _ _ => exact h.elim
      | cons _ _ => exact h.elim
    | _ => exact h
theorem pl_pd {m : Nat} {p : Pr} (h : ShP p) : Pl (m + 2) (pd p) := ⟨by simp, fun x mx => by
  rcases List.mem_cons.1 mx with rfl | mx
  · exact h.1
  · rw [List.mem_singleton.1 mx]; exact h.2⟩
theorem pl_prs {m : Nat} {P : List Pr} (h : ∀ p ∈ P, ShP p) (l : P.length ≤ 16777216) : Pl (m + 3) (.lst (P.map pd)) := ⟨by simpa using l, fun x mx => by
  obtain ⟨s, ms, rfl⟩ := List.mem_map.1 mx
  exact pl_pd (h s ms)⟩
theorem Ppl.sh {S : List PySem.Str} (h : Ppl S) : ∀ s ∈ S, Sh 16777216 s := fun s m => (sh_name (h.2 s m)).mono (by omega)
theorem Prs.sh {S : List PySem.Str} {P : List Pr} (h : Ppl S) (p : Prs S P) : ∀ q ∈ P, ShP q := fun q m => ⟨h.sh _ (p q m).1, h.sh _ (p q m).2.1⟩
end Wk

set_option Elab.async false
set_option linter.all false
set_option maxRecDepth 10000
set_option maxHeartbeats 0
/-! S4: names, people, persons, pairs -/
namespace Wk
open PySem PySem.Spec Qy
open L2 (Key)
/-- a value that may be looked at -/
def Vl (d : D) : Prop := (∃ s : PySem.Str, d = .str s ∧ Sh 16777216 s) ∨ isiV "str" d = some (.bl false)
theorem vl_str {s : PySem.Str} {n : Nat} (h : Sh n s) (l : n ≤ 16777216) : Vl (.str s) := .inl ⟨s, rfl, h.mono l⟩
def nameD : D → Bool
  | .str s => nameB s
  | _ => false
def persB (S : List PySem.Str) : D → Bool
  | .str s => decide (s ∈ S)
  | _ => false
theorem non_str {d : D} (h : isiV "str" d = some (.bl false)) : nameD d = false ∧ ∀ S, persB S d = false := by
  cases d <;> first | exact ⟨rfl, fun _ => rfl⟩ | (simp at h)
theorem len_str {s : PySem.Str} (h : s.length ≤ 16777216) : lenV (.str s) = some (.int (s.length : Nat)) := by
  have e : lenD (.str s) = some s.length := if_pos h
  unfold lenV; rw [e]; rfl
theorem in_low (c : Nat) : inD (.str ⟨#[c]⟩) (.str lett) = some (low c) := by
  show (if (#[c] : Array Nat).size = 1 then some (decide ((#[c] : Array Nat).toList.getD 0 0 ∈ lett.cps.toList)) else none) = _
  exact if_pos (by rfl)
/-- the first place where p holds -/
def first (p : Nat → Bool) (n : Nat) : Option Nat := (List.range n).find? p
theorem first_some {p : Nat → Bool} {n i : Nat} (h : i < n) (a : p i = true) (b : ∀ j, j < i → p j = false) : first p n = some i := by
  unfold first
  rw [List.find?_range_eq_some]
  exact ⟨a, by simpa using h, fun j hj => by simp [b j hj]⟩
theorem first_none {p : Nat → Bool} {n : Nat} (b : ∀ j, j < n → p j = false) : first p n = none := by
  unfold first
  rw [List.find?_range_eq_none]
  intro j hj
  simp [b j hj]
theorem first_none' {p : Nat → Bool} {n : Nat} (h : first p n = none) : ∀ j, j < n → p j = false := by
  unfold first at h
  rw [List.find?_range_eq_none] at h
  intro j hj
  simpa using h j hj
theorem upto {p : Nat → Bool} {i : Nat} (h : ∀ j, j < i → p j = false) (e : p i = false) : ∀ j, j < i + 1 → p j = false := fun j hj => by
  rcases Nat.lt_succ_iff_lt_or_eq.1 hj with h' | rfl
  · exact h j h'
  · exact e
theorem is_name {d : D} (h : Vl d) : Gv [.sh] 1 g_is_name [d] (fun r => r = .bl (nameD d)) NoX := by
  rcases h with ⟨s, rfl, hs⟩ | h
  · have hl := len_str (s := s) hs.1
    simp -implicitDefEqProofs [Gv, g_is_name, rho0, rho1, List.replicate, hl]
    split
    · next h1 =>
      split
      · next h2 => simp [nameD, nameB]; omega
      next h2 =>
      have sg : (signs s).length = s.cps.toList.length := by simp [signs]
      refine for_inv (fun i ρ => ∃ s1, ρ = [.sh (.str s), s1] ∧ ∀ j, j < i → low (s.cps.toList.getD j 0) = true) ⟨_, rfl, fun j h => by omega⟩ ?_ ?_
      · rintro i d ρ hd ⟨s1, rfl, hj⟩
        unfold signs at hd
        rw [List.getElem?_map] at hd
        cases e : s.cps.toList[i]? with
        | none => rw [e] at hd; cases hd
        | some c =>
          rw [e] at hd
          cases hd
          have hn : notInD (.str ⟨#[c]⟩) (.str lett) = some (!low c) := by unfold notInD; rw [in_low]; rfl
          have e2 : s.cps.toList.getD i 0 = c := by simp [List.getD, e]
          simp -implicitDefEqProofs [hn]
          by_cases lc : low c = true
          · simp -implicitDefEqProofs [lc]
            intro j h
            rcases Nat.lt_succ_iff_lt_or_eq.1 h with h | rfl
            · have := hj j h
              simpa using this
            · rw [← lc, ← e2]; simp
          · simp -implicitDefEqProofs [lc, nameD, nameB]
            intro _ _
            obtain ⟨l, rfl⟩ := List.getElem?_eq_some_iff.1 e
            exact ⟨i, by simpa using l, by simpa using lc⟩
      · rintro ρ ⟨s1, rfl, hj⟩
        simp -implicitDefEqProofs [nameD, nameB]
        refine ⟨by omega, by omega, ?_⟩
        rw [sg] at hj
        intro i hi
        have := hj i (by simpa using hi)
        simpa [List.getD, hi] using this
    · simp [nameD, nameB]; omega
  · simp -implicitDefEqProofs [Gv, g_is_name, rho0, rho1, List.replicate, h]
    exact (non_str h).1
theorem in_seq {x : D} {ds : List D} (h : flatD x = true) (hs : ∀ d ∈ ds, flatD d = true) : inD x (.tup ds) = some (ds.any fun d => deq d x) := if_pos (by simp [h]; exact hs)
theorem in_seqL {x : D} {ds : List D} (h : flatD x = true) (hs : ∀ d ∈ ds, flatD d = true) : inD x (.lst ds) = some (ds.any fun d => deq d x) := if_pos (by simp [h]; exact hs)
theorem slT (xs : List D) (k : Nat) : (slD (.tup xs) none (some (k : Int))).or (slL (.tup xs) none (some (k : Int))) = some (.tup (xs.take k)) := by
  show (some (D.tup (cutL xs none (some (k : Int))))).or _ = _
  rw [cut_to]; rfl
theorem slLst (xs : List D) (k : Nat) : (slD (.lst xs) none (some (k : Int))).or (slL (.lst xs) none (some (k : Int))) = some (.lst (xs.take k)) := by
  show (none : Option D).or (some (D.lst (cutL xs none (some (k : Int))))) = _
  rw [cut_to]; rfl
/-- is the item at i wrong: not of the kind p, or equal to an earlier one -/
def badI (p : D → Bool) (xs : List D) (i : Nat) : Bool := !p (xs.getD i .non) || (xs.take i).any fun d => deq d (xs.getD i .non)
theorem take_flat {p : D → Bool} (hp : ∀ d, p d = true → flatD d = true) {xs : List D} {i : Nat} (hi : i ≤ xs.length) (h : ∀ j, j < i → badI p xs j = false) : ∀ d ∈ xs.take i, flatD d = true := by
  intro d m
  obtain ⟨j, hj, rfl⟩ := List.mem_iff_getElem.1 m
  simp only [List.length_take] at hj
  have := h j (by omega)
  have hj' : j < xs.length := by omega
  simp [badI, List.getD, hj'] at this
  rw [List.getElem_take]
  exact hp _ this.1
theorem name_flat {d : D} (h : nameD d = true) : flatD d = true := by
  cases d <;> first | rfl | (simp [nameD] at h)
theorem pers_flat {S : List PySem.Str} {d : D} (h : persB S d = true) : flatD d = true := by
  cases d <;> first | rfl | (simp [persB] at h)
def dueD : D → D
  | .tup xs => if 2 ≤ xs.length ∧ xs.length ≤ 24 then (match first (badI nameD xs) xs.length with | some i => .int (i : Nat) | none => .non) else .int (-1)
  | _ => .int (-1)
/-- what may be passed for people -/
def PpV (d : D) : Prop := (∃ xs, d = .tup xs ∧ xs.length ≤ 16777216 ∧ ∀ x ∈ xs, Vl x) ∨ (isiV "tuple" d = some (.bl false))
theorem check_people {d : D} (h : PpV d) : Gv [.sh] 2 g_check_people [d] (fun r => r = .non ∧ dueD d = .non) (fun e => ∃ k : Int, dueD d = .int k ∧ e = .obj "BadPeople" ["index"] [.int k]) := by
  rcases h with ⟨xs, rfl, hl, hx⟩ | h
  · simp -implicitDefEqProofs [Gv, g_check_people, rho0, rho1, List.replicate]
    split
    case isFalse => simp [dueD, show ¬ (2 ≤ xs.length ∧ xs.length ≤ 24) by omega]
    split
    · next h => simp [dueD, show ¬ (2 ≤ xs.length ∧ xs.length ≤ 24) by omega]
    next h1 h2 =>
    have e0 : dueD (.tup xs) = (match first (badI nameD xs) xs.length with | some i => .int (i : Nat) | none => .non) := if_pos (by omega)
    refine for_inv (fun i ρ => ∃ s1 s2, ρ = [.sh (.tup xs), s1, s2] ∧ ∀ j, j < i → badI nameD xs j = false) ⟨_, _, rfl, fun j h => by omega⟩ ?_ ?_
    · rintro i d ρ hd ⟨s1, s2, rfl, hj⟩
      obtain ⟨x, hx1, rfl⟩ := enum_get hd
      have hi : i < xs.length := (List.getElem?_eq_some_iff.1 hx1).1
      have hx3 := hx x (List.mem_of_getElem? hx1)
      have hx2 : xs.getD i .non = x := by simp [List.getD, hx1]
      simp -implicitDefEqProofs
      refine gv_call1 (is_name hx3) ?_ (fun _ h => h.elim)
      rintro d rfl
      by_cases hn : nameD x = true
      · have hin := in_seq (name_flat hn) (take_flat (fun _ => name_flat) (Nat.le_of_lt hi) hj)
        simp -implicitDefEqProofs [hn, slT, hin]
        split
        · next h =>
          rw [e0, first_some hi ?_ hj]
          simp only [badI, hx2, hn, Bool.not_true, Bool.false_or]
          simpa using h
        · next h =>
          refine upto hj ?_
          simp only [badI, hx2, hn, Bool.not_true, Bool.false_or]
          simpa using h
      · simp -implicitDefEqProofs [hn]
        rw [e0, first_some hi (by simp [badI, List.getD, hx1, hn]) hj]
    · rintro ρ ⟨s1, s2, rfl, hj⟩
      rw [enum_len] at hj
      simp -implicitDefEqProofs
      rw [e0, first_none hj]
  · have e : dueD d = .int (-1) := by cases d <;> first | rfl | (simp at h)
    simp -implicitDefEqProofs [Gv, g_check_people, rho0, rho1, List.replicate, h, e]
theorem is_person (S : List PySem.Str) {d : D} (h : Vl d) : Gv [.sh, .sh] 0 g_is_person [.tup (S.map D.str), d] (fun r => r = .bl (persB S d)) NoX := by
  rcases h with ⟨s, rfl, hs⟩ | h
  · simp -implicitDefEqProofs [Gv, g_is_person, rho0, rho1, List.replicate, in_strT, persB]
  · simp -implicitDefEqProofs [Gv, g_is_person, rho0, rho1, List.replicate, h]
    exact ((non_str h).2 S)
/-- different people -/
def diffB (S : List PySem.Str) (xs : List D) : Bool := (first (badI (persB S) xs) xs.length).isNone
theorem are_diff (S : List PySem.Str) (xs : List D) (f : List D → D) (ht : f = D.tup ∨ f = D.lst) (hl : xs.length ≤ 16777216) (hx : ∀ x ∈ xs, Vl x) : Gv [.sh, .sh] 2 g_are_different [.tup (S.map D.str), f xs] (fun r => r = .bl (diffB S xs)) NoX := by
  have en : enumD (f xs) = some (enum xs) := by rcases ht with rfl | rfl <;> rfl
  have sl : ∀ k : Nat, (slD (f xs) none (some (k : Int))).or (slL (f xs) none (some (k : Int))) = some (f (xs.take k)) := by
    intro k
    rcases ht with rfl | rfl
    · exact slT xs k
    · exact slLst xs k
  simp -implicitDefEqProofs [Gv, g_are_different, rho0, rho1, List.replicate, en]
  refine for_inv (fun i ρ => ∃ s2 s3, ρ = [.sh (.tup (S.map D.str)), .sh (f xs), s2, s3] ∧ ∀ j, j < i → badI (persB S) xs j = false) ⟨_, _, rfl, fun j h => by omega⟩ ?_ ?_
  · rintro i d ρ hd ⟨s2, s3, rfl, hj⟩
    obtain ⟨x, hx1, rfl⟩ := enum_get hd
    have hi : i < xs.length := (List.getElem?_eq_some_iff.1 hx1).1
    have hx3 := hx x (List.mem_of_getElem? hx1)
    have hx2 : xs.getD i .non = x := by simp [List.getD, hx1]
    simp -implicitDefEqProofs
    refine gv_call2 (is_person S hx3) ?_ (fun _ h => h.elim)
    rintro d rfl
    by_cases hn : persB S x = true
    · have fl := take_flat (p := persB S) (fun _ => pers_flat) (Nat.le_of_lt hi) hj
      have hin : inD x (f (xs.take i)) = some ((xs.take i).any fun d => deq d x) := by
        rcases ht with rfl | rfl
        · exact in_seq (pers_flat hn) fl
        · exact in_seqL (pers_flat hn) fl
      simp -implicitDefEqProofs [hn, sl, hin]
      split
      · next h =>
        unfold diffB
        rw [first_some hi ?_ hj]; · rfl
        simp only [badI, hx2, hn, Bool.not_true, Bool.false_or]
        simpa using h
      · next h =>
        refine upto hj ?_
        simp only [badI, hx2, hn, Bool.not_true, Bool.false_or]
        simpa using h
    · simp -implicitDefEqProofs [hn]
      unfold diffB
      rw [first_some hi (by simp [badI, List.getD, hx1, hn]) hj]; rfl
  · rintro ρ ⟨s2, s3, rfl, hj⟩
    rw [enum_len] at hj
    simp -implicitDefEqProofs
    unfold diffB
    rw [first_none hj]; rfl
def pairB (S : List PySem.Str) : D → Bool
  | .tup [x, y] => diffB S [x, y]
  | _ => false
/-- what may be asked to be a pair -/
def PV (d : D) : Prop := (∃ xs, d = .tup xs ∧ xs.length ≤ 16777216 ∧ ∀ x ∈ xs, Vl x) ∨ (isiV "tuple" d = some (.bl false))
theorem is_pair (S : List PySem.Str) {d : D} (h : PV d) : Gv [.sh, .sh] 0 g_is_pair [.tup (S.map D.str), d] (fun r => r = .bl (pairB S d)) NoX := by
  rcases h with ⟨xs, rfl, hl, hx⟩ | h
  · simp -implicitDefEqProofs [Gv, g_is_pair, rho0, rho1, List.replicate, blP_b]
    by_cases h2 : xs.length = 2
    · have e : pairB S (.tup xs) = diffB S xs := by
        match xs, h2 with
        | [x, y], _ => rfl
      have : (xs.length : Int) = 2 := by omega
      simp -implicitDefEqProofs [this]
      refine gv_call2 (are_diff S xs _ (.inl rfl) hl hx) ?_ (fun _ h => h.elim)
      rintro _ rfl
      simp -implicitDefEqProofs [e]
    · have e : pairB S (.tup xs) = false := by
        match xs, h2 with
        | [], _ => rfl
        | [_], _ => rfl
        | _ :: _ :: _ :: _, _ => rfl
      have : ¬ (xs.length : Int) = 2 := by omega
      simp -implicitDefEqProofs [this, e]
  · have e : pairB S d = false := by cases d <;> first | rfl | (simp at h)
    simp -implicitDefEqProofs [Gv, g_is_pair, rho0, rho1, List.replicate, h, e]
theorem pairB_strs (S : List PySem.Str) (a b : PySem.Str) : pairB S (pd (a, b)) = (decide (a ∈ S) && (decide (b ∈ S) && !decide (a = b))) := by
  have e : (first (badI (persB S) [.str a, .str b]) 2).isNone = (!badI (persB S) [.str a, .str b] 0 && !badI (persB S) [.str a, .str b] 1) := by
    cases h0 : badI (persB S) [.str a, .str b] 0 with
    | true => rw [first_some (by omega) h0 (fun j h => by omega)]; rfl
    | false =>
      cases h1 : badI (persB S) [.str a, .str b] 1 with
      | true => rw [first_some (i := 1) (by omega) h1 (fun j h => by have : j = 0 := by omega
                                                                     rw [this]; exact h0)]; rfl
      | false => rw [first_none (fun j h => by rcases (by omega : j = 0 ∨ j = 1) with rfl | rfl <;> assumption)]; rfl
  show diffB S [.str a, .str b] = _
  unfold diffB
  show (first (badI (persB S) [.str a, .str b]) 2).isNone = _
  rw [e]
  simp [badI, persB, deq, toP, eqv_str]
end Wk

set_option Elab.async false
set_option linter.all false
set_option maxRecDepth 10000
set_option maxHeartbeats 0
/-! S5: lists of pairs, parties -/
namespace Wk
open PySem PySem.Spec Qy
open L2 (Key)
def pairsDue (S : List PySem.Str) : D → Option Int
  | .lst xs => if xs.length ≤ 600 then (first (fun i => !pairB S (xs.getD i .non)) xs.length).map (fun i : Nat => (i : Int)) else some (-1)
  | _ => some (-1)
/-- what may be passed for a list of pairs -/
def PLV (d : D) : Prop := (∃ xs, d = .lst xs ∧ xs.length ≤ 16777216 ∧ ∀ x ∈ xs, PV x) ∨ (isiV "list" d = some (.bl false))
theorem check_pairs (S : List PySem.Str) {d : D} (h : PLV d) : Gv [.sh, .sh] 2 g_check_pairs [.tup (S.map D.str), d] (fun r => r = .non ∧ pairsDue S d = none) (fun e => ∃ k : Int, pairsDue S d = some k ∧ e = .obj "BadPair" ["index"] [.int k]) := by
  rcases h with ⟨xs, rfl, hl, hx⟩ | h
  · simp -implicitDefEqProofs [Gv, g_check_pairs, rho0, rho1, List.replicate]
    split
    · next h => simp [pairsDue, show ¬ xs.length ≤ 600 by omega]
    next h1 =>
    have e0 : pairsDue S (.lst xs) = (first (fun i => !pairB S (xs.getD i .non)) xs.length).map (fun i : Nat => (i : Int)) := if_pos (by omega)
    refine for_inv (fun i ρ => ∃ s2 s3, ρ = [.sh (.tup (S.map D.str)), .sh (.lst xs), s2, s3] ∧ ∀ j, j < i → (fun i => !pairB S (xs.getD i .non)) j = false) ⟨_, _, rfl, fun j h => by omega⟩ ?_ ?_
    · rintro i d ρ hd ⟨s2, s3, rfl, hj⟩
      obtain ⟨x, hx1, rfl⟩ := enum_get hd
      have hi : i < xs.length := (List.getElem?_eq_some_iff.1 hx1).1
      have hx3 := hx x (List.mem_of_getElem? hx1)
      have hx2 : xs.getD i .non = x := by simp [List.getD, hx1]
      simp -implicitDefEqProofs
      refine gv_call2 (is_pair S hx3) ?_ (fun _ h => h.elim)
      rintro d rfl
      by_cases hn : pairB S x = true
      · simp -implicitDefEqProofs [hn]
        have := upto (p := fun i => !pairB S (xs.getD i .non)) hj (by simp only [hx2, hn]; rfl)
        intro j h
        simpa using this j h
      · simp -implicitDefEqProofs [hn]
        rw [e0, first_some hi (by simp only [hx2]; simpa using hn) hj]; rfl
    · rintro ρ ⟨s2, s3, rfl, hj⟩
      rw [enum_len] at hj
      simp -implicitDefEqProofs
      rw [e0, first_none hj]; rfl
  · have e : pairsDue S d = some (-1) := by cases d <;> first | rfl | (simp at h)
    simp -implicitDefEqProofs [Gv, g_check_pairs, rho0, rho1, List.replicate, h, e]
def ky (p : Pr) : List Key := [.inr p.1, .inr p.2]
theorem ky_inj {p q : Pr} (h : ky p = ky q) : p = q := by
  unfold ky at h
  injection h with h1 h2
  injection h1 with h1
  injection h2 with h2
  injection h2 with h2
  exact Prod.ext h1 h2
theorem kTD_ky (p : Pr) : kTD (ky p) = pd p := rfl
theorem keyT_pd (p : Pr) : keyT (pd p) = some (ky p) := rfl
/-- barred pairs as a party holds them -/
def clo (C : List Pr) : D := .dt (C.map ky) (C.map fun _ => .bl true)
def addC (C : List Pr) (p : Pr) : List Pr := if p ∈ C then C else C ++ [p]
/-- each once -/
def ded (P : List Pr) : List Pr := P.foldl addC []
theorem any_ky (C : List Pr) (p : Pr) : (C.map ky).any (fun j => decide (j = ky p)) = decide (p ∈ C) := by
  rw [Bool.eq_iff_iff]
  simp only [List.any_eq_true, List.mem_map, decide_eq_true_eq]
  constructor
  · rintro ⟨_, ⟨q, hq, rfl⟩, e⟩
    rw [← ky_inj e]; exact hq
  · intro h
    exact ⟨_, ⟨p, h, rfl⟩, rfl⟩
theorem rep_true (C : List Pr) (p : Pr) : repD (ky p) (.bl true) (C.map ky) (C.map fun _ => .bl true) = C.map fun _ => .bl true := by
  induction C with
  | nil => rfl
  | cons q C ih =>
    simp only [List.map_cons, repD]
    split <;> rw [ih]
theorem st_clo {C : List Pr} {p : Pr} (h : C.length < 16777216) : stD (clo C) (pd p) (.bl true) = some (clo (addC C p)) := by
  show (keyT (pd p)).bind (fun k => if (C.map ky).length < 16777216 then some (D.dt (putKs k (C.map ky)) (putDs k (.bl true) (C.map ky) (C.map fun _ => .bl true))) else none) = _
  rw [keyT_pd]
  simp only [Option.bind_some, List.length_map, h, if_true]
  unfold putKs putDs addC clo
  rw [any_ky]
  by_cases m : p ∈ C
  · simp [m, rep_true]
  · simp [m]
theorem addC_len (C : List Pr) (p : Pr) : (addC C p).length ≤ C.length + 1 := by
  unfold addC; split <;> simp
theorem stores_clo (P : List Pr) : ∀ C : List Pr, C.length + P.length ≤ 16777216 → stores ((P.map pd).map fun k => (k, D.bl true)) (clo C) = some (clo (P.foldl addC C)) := by
  induction P with
  | nil => intro C _; rfl
  | cons p P ih =>
    intro C h
    simp only [List.length_cons] at h
    simp only [List.map_cons, stores, List.foldl_cons]
    rw [st_clo (by omega)]
    have := addC_len C p
    exact ih _ (by omega)
theorem addC_mem {C : List Pr} {p q : Pr} : q ∈ addC C p ↔ q ∈ C ∨ q = p := by
  unfold addC
  split
  · next h => constructor
              · exact .inl
              · rintro (h' | rfl)
                · exact h'
                · exact h
  · simp
theorem addC_nd {C : List Pr} {p : Pr} (h : C.Nodup) : (addC C p).Nodup := by
  unfold addC
  split
  · exact h
  · next m =>
    rw [List.nodup_append]
    refine ⟨h, by simp, fun a ma b mb e => ?_⟩
    rw [List.mem_singleton.1 mb] at e
    subst e
    exact m ma
theorem fold_mem {q : Pr} (P : List Pr) : ∀ C, q ∈ P.foldl addC C ↔ q ∈ C ∨ q ∈ P := by
  induction P with
  | nil => intro C; simp
  | cons p P ih =>
    intro C
    rw [List.foldl_cons, ih, addC_mem, List.mem_cons, or_assoc]
theorem fold_nd (P : List Pr) : ∀ C : List Pr, C.Nodup → (P.foldl addC C).Nodup := by
  induction P with
  | nil => intro C h; exact h
  | cons p P ih => intro C h; exact ih _ (addC_nd h)
theorem ded_mem {P : List Pr} {q : Pr} : q ∈ ded P ↔ q ∈ P := by unfold ded; rw [fold_mem]; simp
theorem ded_nd (P : List Pr) : (ded P).Nodup := fold_nd P [] List.nodup_nil
theorem nd_perm {α : Type} [DecidableEq α] : ∀ {A B : List α}, A.Nodup → B.Nodup → (∀ x, x ∈ A ↔ x ∈ B) → A.Perm B
  | [], B, _, _, h => by
    cases B with
    | nil => exact .refl _
    | cons b B => exact absurd ((h b).2 List.mem_cons_self) (by simp)
  | a :: A, B, ha, hb, h => by
    have hm : a ∈ B := (h a).1 List.mem_cons_self
    have p := List.perm_cons_erase hm
    rw [List.nodup_cons] at ha
    have nb : (B.erase a).Nodup := hb.erase a
    refine (List.Perm.cons a (nd_perm ha.2 nb fun x => ?_)).trans p.symm
    by_cases e : x = a
    · subst e
      constructor
      · intro m; exact (ha.1 m).elim
      · intro m
        exact absurd m (List.Nodup.not_mem_erase hb)
    · rw [List.mem_erase_of_ne e, ← h x, List.mem_cons]
      constructor
      · exact .inr
      · rintro (m | m)
        · exact (e m).elim
        · exact m
theorem ded_perm {P : List Pr} (h : P.Nodup) : (ded P).Perm P := nd_perm (ded_nd P) h fun _ => ded_mem
/-! ### parties -/
abbrev party (d c : D) : D := .obj "Party" ["_people", "_closed"] [d, c]
theorem io_barred (d c : D) : insOk "Party" "barred" (party d c) = true := rfl
theorem fl_people (d c : D) : fldD "Party" "_people" (party d c) = some d := rfl
theorem fl_closed (d c : D) : fldD "Party" "_closed" (party d c) = some c := rfl
theorem pairB_pd {S : List PySem.Str} {v : D} (h : pairB S v = true) : ∃ p : Pr, v = pd p ∧ p.1 ∈ S ∧ p.2 ∈ S ∧ p.1 ≠ p.2 := by
  unfold pairB at h
  split at h
  · next x y =>
    unfold diffB at h
    rw [Option.isNone_iff_eq_none] at h
    have f := first_none' h
    have f0 := f 0 (by simp)
    have f1 := f 1 (by simp)
    simp only [badI, List.getD_cons_zero, List.getD_cons_succ, List.take_zero, List.any_nil, Bool.or_false, Bool.or_eq_false_iff, Bool.not_eq_false', List.take_succ_cons, List.any_cons] at f0 f1
    cases x <;> first | (simp [persB] at f0; done) | skip
    rename_i a
    obtain ⟨g1, g2⟩ := f1
    cases y <;> first | (simp [persB] at g1; done) | skip
    rename_i b
    simp [persB] at f0 g1
    simp [deq, toP, eqv_str] at g2
    exact ⟨(a, b), rfl, f0, g1, g2⟩
  · cases h
theorem pairsDue_none {S : List PySem.Str} {d : D} (h : pairsDue S d = none) : ∃ P : List Pr, d = .lst (P.map pd) ∧ P.length ≤ 600 ∧ Prs S P := by
  cases d <;> first | (cases h; done) | skip
  rename_i xs
  unfold pairsDue at h
  dsimp only at h
  split at h
  · next hl =>
    have f := first_none' (Option.map_eq_none_iff.1 h)
    have all : ∀ x ∈ xs, ∃ p : Pr, x = pd p ∧ p.1 ∈ S ∧ p.2 ∈ S ∧ p.1 ≠ p.2 := fun x m => by
      obtain ⟨i, hi⟩ := List.mem_iff_getElem?.1 m
      have := f i (List.getElem?_eq_some_iff.1 hi).1
      simp [List.getD, hi] at this
      exact pairB_pd this
    clear h f
    suffices z : ∀ xs : List D, (∀ x ∈ xs, ∃ p : Pr, x = pd p ∧ p.1 ∈ S ∧ p.2 ∈ S ∧ p.1 ≠ p.2) → ∃ P : List Pr, xs = P.map pd ∧ Prs S P by
      obtain ⟨P, rfl, hP⟩ := z xs all
      exact ⟨P, rfl, by simpa using hl, hP⟩
    intro xs
    induction xs with
    | nil => exact fun _ => ⟨[], rfl, fun p m => by cases m⟩
    | cons x xs ih =>
      intro a
      obtain ⟨P, rfl, hP⟩ := ih fun x m => a x (List.mem_cons_of_mem _ m)
      obtain ⟨p, rfl, hp⟩ := a x List.mem_cons_self
      exact ⟨p :: P, rfl, fun q m => by
        rcases List.mem_cons.1 m with rfl | m
        · exact hp
        · exact hP q m⟩
  · cases h
theorem pairsDue_ok {S : List PySem.Str} {P : List Pr} (h : Prs S P) (l : P.length ≤ 600) : pairsDue S (.lst (P.map pd)) = none := by
  unfold pairsDue
  dsimp only
  rw [if_pos (by simpa using l), Option.map_eq_none_iff]
  refine first_none fun j hj => ?_
  simp only [List.length_map] at hj
  have m := List.getElem_mem hj
  obtain ⟨a, b, c⟩ := h _ m
  simp only [List.getD, List.getElem?_map, List.getElem?_eq_getElem hj, Option.map_some, Option.getD_some, Bool.not_eq_false']
  have := pairB_strs S P[j].1 P[j].2
  rw [show pd P[j] = pd (P[j].1, P[j].2) from rfl, this]
  simp [a, b, c]
theorem dueD_ok {S : List PySem.Str} (h : Ppl S) (l2 : 2 ≤ S.length) (l : S.length ≤ 24) : dueD (.tup (S.map D.str)) = .non := by
  unfold dueD
  dsimp only
  rw [if_pos (by simp; omega), first_none]
  intro j hj
  simp only [List.length_map] at hj
  have hn := h.2 _ (List.getElem_mem hj)
  simp only [badI, List.getD, List.getElem?_map, List.getElem?_eq_getElem hj, Option.map_some, Option.getD_some, nameD, hn, Bool.not_true, Bool.false_or]
  rw [List.any_eq_false]
  intro d m e
  obtain ⟨i, hi, rfl⟩ := List.mem_iff_getElem.1 m
  simp only [List.length_take, List.length_map] at hi
  simp only [List.getElem_take, List.getElem_map, deq, toP, eqv_str, decide_eq_true_eq] at e
  have := nd_inj h.1 e
  omega
theorem ppv_str {S : List PySem.Str} (h : ∀ s ∈ S, Sh 16777216 s) (l : S.length ≤ 16777216) : PpV (.tup (S.map D.str)) := .inl ⟨_, rfl, by simpa using l, fun x m => by
  obtain ⟨s, hs, rfl⟩ := List.mem_map.1 m
  exact .inl ⟨s, rfl, h s hs⟩⟩
theorem pv_pd {p : Pr} (h : ShP p) : PV (pd p) := .inl ⟨_, rfl, by simp, fun x m => by
  rcases List.mem_cons.1 m with rfl | m
  · exact .inl ⟨_, rfl, h.1⟩
  · rw [List.mem_singleton.1 m]; exact .inl ⟨_, rfl, h.2⟩⟩
theorem plv_prs {P : List Pr} (h : ∀ p ∈ P, ShP p) (l : P.length ≤ 16777216) : PLV (.lst (P.map pd)) := .inl ⟨_, rfl, by simpa using l, fun x m => by
  obtain ⟨s, hs, rfl⟩ := List.mem_map.1 m
  exact pv_pd (h s hs)⟩
/-- Party(people, barred), any values: the people first -/
theorem init {d b : D} (hd : PpV d) (hb : PLV b) : Gm "Party" [.sh, .sh] 1 g_Partyxx_initxx_iss [d, b] (fun o => ∃ (S : List PySem.Str) (P : List Pr), d = .tup (S.map D.str) ∧ b = .lst (P.map pd) ∧ dueD d = .non ∧ pairsDue S b = none ∧ o = party d (clo (ded P)))
    (fun e => (∃ k : Int, dueD d = .int k ∧ e = .obj "BadPeople" ["index"] [.int k]) ∨ ∃ (S : List PySem.Str) (k : Int), d = .tup (S.map D.str) ∧ dueD d = .non ∧ pairsDue S b = some k ∧ e = .obj "BadPair" ["index"] [.int k]) := by
  simp -implicitDefEqProofs [Gm, g_Partyxx_initxx_iss, rho0, rho1, List.replicate]
  refine gv_call1 (check_people hd) ?_ ?_
  · rintro r ⟨rfl, hdue⟩
    obtain ⟨S, rfl⟩ : ∃ S : List PySem.Str, d = .tup (S.map D.str) := by
      cases d <;> first | (cases hdue; done) | skip
      rename_i xs
      unfold dueD at hdue
      dsimp only at hdue
      split at hdue
      · cases hf : first (badI nameD xs) xs.length with
        | some i => rw [hf] at hdue; cases hdue
        | none =>
          have f := first_none' hf
          have all : ∀ x ∈ xs, ∃ s : PySem.Str, x = .str s := fun x m => by
            obtain ⟨i, hi⟩ := List.mem_iff_getElem?.1 m
            have := f i (List.getElem?_eq_some_iff.1 hi).1
            simp [badI, List.getD, hi] at this
            cases x <;> first | exact ⟨_, rfl⟩ | (simp [nameD] at this)
          clear hdue hf f hd
          suffices z : ∀ xs : List D, (∀ x ∈ xs, ∃ s : PySem.Str, x = .str s) → ∃ S : List PySem.Str, xs = S.map D.str by
            obtain ⟨S, rfl⟩ := z xs all
            exact ⟨S, rfl⟩
          intro xs
          induction xs with
          | nil => exact fun _ => ⟨[], rfl⟩
          | cons x xs ih =>
            intro a
            obtain ⟨S, rfl⟩ := ih fun x m => a x (List.mem_cons_of_mem _ m)
            obtain ⟨s, rfl⟩ := a x List.mem_cons_self
            exact ⟨s :: S, rfl⟩
      · cases hdue
    simp -implicitDefEqProofs
    refine gv_call2 (check_pairs S hb) ?_ ?_
    · rintro r ⟨rfl, hp⟩
      obtain ⟨P, rfl, hl, hP⟩ := pairsDue_none hp
      have p1 : putN "_people" [] = (["_people"] : List PySem.Str) := rfl
      have p2 : putN "_closed" ["_people"] = (["_people", "_closed"] : List PySem.Str) := rfl
      have p3 : ∀ d : D, putV "_people" d [] [] = [d] := fun _ => rfl
      have p4 : ∀ d e : D, putV "_closed" e ["_people"] [d] = [d, e] := fun _ _ => rfl
      simp -implicitDefEqProofs [p1, p3]
      refine dcomp_fold (c' := clo (ded P)) (fun k => (k, .bl true)) (τ := [.ow (some 0) (.obj "Party" ["_people"] [.tup (S.map D.str)]), .sh (.tup (S.map D.str)), .sh (.lst (P.map pd)), .no]) rfl rfl ?_ (stores_clo P [] (by simp; omega)) ?_
      · intro x m
        simp -implicitDefEqProofs
        rfl
      · simp -implicitDefEqProofs [p2, p4]
        exact ⟨S, rfl, P, rfl, hdue, hp, rfl⟩
    · rintro e ⟨k, hk, rfl⟩
      simp -implicitDefEqProofs
      exact .inr ⟨S, rfl, hdue, hk⟩
  · rintro e ⟨k, hk, rfl⟩
    simp -implicitDefEqProofs
    exact .inl hk
end Wk

set_option Elab.async false
set_option linter.all false
set_option maxRecDepth 10000
set_option maxHeartbeats 0
/-! S6: parties made of good data; what they answer -/
namespace Wk
open PySem PySem.Spec Qy
open L2 (Key)
/-- a promise to hand out a new thing -/
def GvF (ks : List Kd) (n : Nat) (g : M Fl) (ds : List D) (P X : D → Prop) : Prop := Ev (g (rho0 ks ds n)) (fun fl _ => ∃ d, fl = .rf d ∧ P d) (fun e _ => X e)
theorem GvF.gv {ks : List Kd} {n : Nat} {g : M Fl} {ds : List D} {P X : D → Prop} (h : GvF ks n g ds P X) : Gv ks n g ds P X := h.mono (fun fl _ ⟨d, e, p⟩ => by subst e; exact p) (fun _ _ h => h)
theorem Ppl.le {S : List PySem.Str} (h : Ppl S) : ∀ s ∈ S, Sh 16777216 s := h.sh
theorem init_ok {S : List PySem.Str} {P : List Pr} (hS : Ppl S) (l2 : 2 ≤ S.length) (l : S.length ≤ 24) (hP : Prs S P) (lP : P.length ≤ 600) : Gm "Party" [.sh, .sh] 1 g_Partyxx_initxx_iss [.tup (S.map D.str), .lst (P.map pd)] (fun o => o = party (.tup (S.map D.str)) (clo (ded P))) NoX := by
  refine (init (ppv_str hS.sh (by omega)) (plv_prs (hP.sh hS) (by omega))).mono ?_ ?_
  · rintro fl ρ ⟨a, o, b, S', P', e1, e2, _, _, rfl⟩
    refine ⟨a, _, b, ?_⟩
    injection e2 with e2
    have inj : ∀ A B : List Pr, A.map pd = B.map pd → A = B := by
      intro A
      induction A with
      | nil => intro B h; cases B with
        | nil => rfl
        | cons _ _ => cases h
      | cons x A ih => intro B h; cases B with
        | nil => cases h
        | cons y B =>
          simp only [List.map_cons, List.cons.injEq] at h
          rw [pd_inj h.1, ih B h.2]
    rw [inj _ _ e2]
  · rintro e ρ ⟨a, h⟩
    refine ⟨a, ?_⟩
    have d0 := dueD_ok hS l2 l
    have p0 := pairsDue_ok hP lP
    rcases h with ⟨k, hk, _⟩ | ⟨S', k, e1, _, hk, _⟩
    · rw [d0] at hk; cases hk
    · injection e1 with e1
      have inj : ∀ A B : List PySem.Str, A.map D.str = B.map D.str → A = B := by
        intro A
        induction A with
        | nil => intro B h; cases B with
          | nil => rfl
          | cons _ _ => cases h
        | cons x A ih => intro B h; cases B with
          | nil => cases h
          | cons y B =>
            simp only [List.map_cons, List.cons.injEq, D.str.injEq] at h
            rw [h.1, ih B h.2]
      rw [inj _ _ e1] at p0
      rw [p0] at hk; cases hk
theorem check_people_ok {S : List PySem.Str} (hS : Ppl S) (l2 : 2 ≤ S.length) (l : S.length ≤ 24) : Gv [.sh] 2 g_check_people [.tup (S.map D.str)] (fun r => r = .non) NoX := by
  refine (check_people (ppv_str hS.sh (by omega))).mono (fun fl ρ h => ?_) (fun e ρ h => ?_)
  · cases fl <;> first | exact h.1 | exact h
  · obtain ⟨k, hk, _⟩ := h
    rw [dueD_ok hS l2 l] at hk; cases hk
theorem getD_clo (C : List Pr) (p : Pr) : getD' (C.map ky) (C.map fun _ => D.bl true) (ky p) = if p ∈ C then some (.bl true) else none := by
  induction C with
  | nil => rfl
  | cons q C ih =>
    simp only [List.map_cons, getD']
    by_cases e : ky q = ky p
    · have := ky_inj e
      subst this
      simp
    · have ne : p ≠ q := fun z => e (by rw [z])
      rw [if_neg e, ih]
      simp [ne]
theorem ni_clo (C : List Pr) (p : Pr) : notInD (pd p) (clo C) = some (!decide (p ∈ C)) := by
  rw [← kTD_ky]
  unfold clo
  rw [ni_dt, getD_clo]
  by_cases h : p ∈ C <;> simp [h]
def inC (C : List Pr) : D → Bool
  | .tup [.str a, .str b] => decide ((a, b) ∈ C)
  | _ => false
/-- is it a pair of the party -/
def freeB (S : List PySem.Str) (C : List Pr) (v : D) : Bool := pairB S v && !inC C v
theorem contains (S : List PySem.Str) (C : List Pr) {v : D} (h : PV v) : Gv [.sh, .sh] 0 g_Partyxx_containsxx [party (.tup (S.map D.str)) (clo C), v] (fun r => r = .bl (freeB S C v)) NoX := by
  simp -implicitDefEqProofs [Gv, g_Partyxx_containsxx, rho0, rho1, List.replicate, fl_people]
  refine gv_call2 (is_pair S h) ?_ (fun _ h => h.elim)
  rintro _ rfl
  by_cases hp : pairB S v = true
  · obtain ⟨p, rfl, _⟩ := pairB_pd hp
    simp -implicitDefEqProofs [hp, fl_closed, ni_clo, freeB]
    rfl
  · simp -implicitDefEqProofs [hp, freeB]
theorem p_barred {S : List PySem.Str} (hS : Ppl S) {C : List Pr} (hC : Prs S C) (l : C.length ≤ 16777216) : GvF [.sh] 0 g_Party_barred [party (.tup (S.map D.str)) (clo C)] (fun r => r = .lst ((sortP C).map pd)) NoX := by
  have hl : listD (clo C) = some (C.map pd) := by
    show some ((C.map ky).map kTD) = _
    rw [List.map_map]; rfl
  simp -implicitDefEqProofs [GvF, g_Party_barred, rho0, rho1, List.replicate, fl_closed, hl, sort_prs (hC.sh hS) l]
end Wk

set_option Elab.async false
set_option linter.all false
set_option maxRecDepth 10000
set_option maxHeartbeats 0
/-! S7: lists of pairs compared; what is in them -/
namespace Wk
open PySem PySem.Spec Qy
open L2 (Key)
theorem ded_prs {S : List PySem.Str} {P : List Pr} (h : Prs S P) : Prs S (ded P) := fun p m => h p (ded_mem.1 m)
end Wk

set_option Elab.async false
set_option linter.all false
set_option maxRecDepth 10000
set_option maxHeartbeats 0
/-! S8: parties in which more or fewer pairs are barred -/
namespace Wk
open PySem PySem.Spec Qy
open L2 (Key)
theorem nd_len {α : Type} [DecidableEq α] : ∀ {A B : List α}, A.Nodup → (∀ x ∈ A, x ∈ B) → A.length ≤ B.length
  | [], B, _, _ => by simp
  | a :: A, B, ha, h => by
    rw [List.nodup_cons] at ha
    have m := h a List.mem_cons_self
    have := nd_len (B := B.erase a) ha.2 fun x mx => by
      have : x ≠ a := fun z => ha.1 (by rw [← z]; exact mx)
      rw [List.mem_erase_of_ne this]
      exact h x (List.mem_cons_of_mem _ mx)
    rw [List.length_erase_of_mem m] at this
    have := List.length_pos_of_mem m
    simp only [List.length_cons]
    omega
theorem prs_len {S : List PySem.Str} {P : List Pr} (nd : P.Nodup) (h : Prs S P) : P.length ≤ S.length * S.length := by
  have := nd_len (B := S.flatMap fun a => S.map fun b => (a, b)) nd fun p m => by
    obtain ⟨a, b, _⟩ := h p m
    rw [List.mem_flatMap]
    exact ⟨p.1, a, List.mem_map.2 ⟨p.2, b, rfl⟩⟩
  rw [List.length_flatMap] at this
  simp only [List.length_map] at this
  have e : ∀ T : List PySem.Str, (T.map fun _ => S.length).sum = T.length * S.length := by
    intro T
    induction T with
    | nil => simp
    | cons t T ih => simp only [List.map_cons, List.sum_cons, ih, List.length_cons, Nat.succ_mul]; omega
  rw [e] at this
  exact this
theorem fold_id {P : List Pr} : ∀ {C : List Pr}, P.Nodup → (∀ p ∈ P, p ∉ C) → P.foldl addC C = C ++ P := by
  induction P with
  | nil => intro C _ _; simp
  | cons p P ih =>
    intro C nd h
    rw [List.nodup_cons] at nd
    rw [List.foldl_cons, show addC C p = C ++ [p] from if_neg (h p List.mem_cons_self), ih nd.2]
    · simp
    · intro q m n
      rcases List.mem_append.1 n with n | n
      · exact h q (List.mem_cons_of_mem _ m) n
      · rw [List.mem_singleton.1 n] at m; exact nd.1 m
theorem ded_id {P : List Pr} (nd : P.Nodup) : ded P = P := by
  have := fold_id (C := []) nd (by simp)
  simpa [ded] using this
/-- a party's data -/
structure Pty (S : List PySem.Str) (C : List Pr) : Prop where
  ppl : Ppl S
  two : 2 ≤ S.length
  few : S.length ≤ 24
  nd : C.Nodup
  prs : Prs S C
theorem Pty.len {S : List PySem.Str} {C : List Pr} (h : Pty S C) : C.length ≤ 576 := Nat.le_trans (prs_len h.nd h.prs) (Nat.mul_le_mul h.few h.few)
theorem Pty.init {S : List PySem.Str} {C : List Pr} (h : Pty S C) : Gm "Party" [.sh, .sh] 1 g_Partyxx_initxx_iss [.tup (S.map D.str), .lst (C.map pd)] (fun o => o = party (.tup (S.map D.str)) (clo C)) NoX := by
  have := init_ok h.ppl h.two h.few h.prs (by have := h.len; omega)
  rwa [ded_id h.nd] at this
theorem Pty.filter {S : List PySem.Str} {C : List Pr} (h : Pty S C) (p : Pr → Bool) : Pty S (C.filter p) := ⟨h.ppl, h.two, h.few, h.nd.filter p, fun q m => h.prs q (List.mem_filter.1 m).1⟩
end Wk

set_option Elab.async false
set_option linter.all false
set_option maxRecDepth 10000
set_option maxHeartbeats 0
/-! S9: equal parties -/
namespace Wk
open PySem PySem.Spec Qy
open L2 (Key)
theorem okP_strsT {S : List PySem.Str} (h : ∀ s ∈ S, Sh 16777216 s) : okP (.tup (S.map D.str)) = true := by
  have a : ∀ S : List PySem.Str, (∀ s ∈ S, Sh 16777216 s) → PyData.canLayAll0 (toPs (S.map D.str)) = true ∧ PyData.depthAll (toPs (S.map D.str)) ≤ 0 := by
    intro S
    induction S with
    | nil => intro _; simp [toPs, PyData.canLayAll0, PyData.depthAll]
    | cons s S ih =>
      intro h
      obtain ⟨i1, i2⟩ := ih fun q m => h q (List.mem_cons_of_mem _ m)
      have hs := (h s List.mem_cons_self).2
      simp only [List.map_cons, toPs, PyData.canLayAll0, PyData.depthAll, Bool.and_eq_true]
      refine ⟨⟨by simp [toP, PyData.canLay0, hs], i1⟩, ?_⟩
      have : PyData.depth (toP (.str s)) = 0 := by simp [toP, PyData.depth]
      omega
  obtain ⟨a1, a2⟩ := a S h
  unfold okP SeqAt.shaped
  simp only [toP, PyData.canLay0, PyData.depth, Bool.and_eq_true, decide_eq_true_eq]
  exact ⟨a1, by omega⟩
end Wk

set_option Elab.async false
set_option linter.all false
set_option maxRecDepth 100000
namespace Wk
noncomputable section
open PySem PySem.Spec PySem.Calls L2 PyProof.Rows Qy
end
end Wk

set_option Elab.async false
set_option linter.all false
set_option maxRecDepth 10000
set_option maxHeartbeats 0
/-! S10: equal parties; lists of one's own handed to with_barred, without -/
namespace Wk
open PySem PySem.Spec Qy
open L2 (Key)
end Wk

set_option Elab.async false
set_option linter.all false
set_option maxHeartbeats 0
/-! M11: rules of remove and index; names and pairs by place -/
namespace Qy
open PySem PySem.Spec L2
variable {Q : D → Rho → Prop} {F : Fl → Rho → Prop} {E : D → Rho → Prop} {ρ : Rho}
end Qy
namespace Wk
open PySem PySem.Spec Qy
open L2 (Key)
theorem okP_sh {s : PySem.Str} (h : Sh 16777216 s) : okP (.str s) = true := by
  have a := h.2
  unfold okP SeqAt.shaped
  simp [toP, PyData.canLay0, PyData.depth, a]
theorem okP_strs {S : List PySem.Str} (h : ∀ s ∈ S, Sh 16777216 s) : okP (.lst (S.map D.str)) = true := by
  have a : ∀ S : List PySem.Str, (∀ s ∈ S, Sh 16777216 s) → PyData.canLayAll0 (toPs (S.map D.str)) = true ∧ PyData.depthAll (toPs (S.map D.str)) ≤ 1 := by
    intro S
    induction S with
    | nil => intro _; simp [toPs, PyData.canLayAll0, PyData.depthAll]
    | cons p S ih =>
      intro h
      obtain ⟨i1, i2⟩ := ih fun q m => h q (List.mem_cons_of_mem _ m)
      have a := (h p List.mem_cons_self).2
      simp only [List.map_cons, toPs, PyData.canLayAll0, PyData.depthAll, Bool.and_eq_true]
      refine ⟨⟨?_, i1⟩, ?_⟩
      · simp [toP, PyData.canLay0, a]
      · have : PyData.depth (toP (D.str p)) = 0 := by simp [toP, PyData.depth]
        omega
  obtain ⟨a1, a2⟩ := a S h
  unfold okP SeqAt.shaped
  simp only [toP, PyData.canLay0, PyData.depth, Bool.and_eq_true, decide_eq_true_eq]
  exact ⟨a1, by omega⟩
theorem deq_s (a b : PySem.Str) : deq (.str a) (.str b) = decide (a = b) := by
  unfold deq
  simp only [toP]
  exact eqv_str a b
/-- the place of s in S -/
def plc (S : List PySem.Str) (s : PySem.Str) : Nat := S.findIdx (fun a => decide (a = s))
theorem plc_lt {S : List PySem.Str} {s : PySem.Str} (m : s ∈ S) : plc S s < S.length := List.findIdx_lt_length_of_exists ⟨s, m, by simp⟩
theorem plc_at {S : List PySem.Str} {s : PySem.Str} (m : s ∈ S) : S[plc S s]'(plc_lt m) = s := by
  have := List.findIdx_getElem (w := plc_lt m)
  exact of_decide_eq_true this
end Wk

set_option Elab.async false
set_option linter.all false
set_option maxRecDepth 10000
set_option maxHeartbeats 0
/-! M12: dicts by name; loops and comprehensions over lists of one kind -/
namespace Wk
open PySem PySem.Spec Qy
open L2 (Key)
/-- a dict whose keys are names -/
def dct (O : List PySem.Str) (f : PySem.Str → D) : D := .dk (O.map Sum.inr) (O.map f)
def upf {α : Type} (f : PySem.Str → α) (a : PySem.Str) (d : α) : PySem.Str → α := fun x => if x = a then d else f x
@[simp] theorem upf_same {α : Type} (f : PySem.Str → α) (a : PySem.Str) (d : α) : upf f a d a = d := if_pos rfl
theorem upf_ne {α : Type} {f : PySem.Str → α} {a x : PySem.Str} {d : α} (h : x ≠ a) : upf f a d x = f x := if_neg h
theorem getD_dct (O : List PySem.Str) (f : PySem.Str → D) (a : PySem.Str) : getD' (O.map Sum.inr) (O.map f) (Sum.inr a : Key) = if a ∈ O then some (f a) else none := by
  induction O with
  | nil => rfl
  | cons o O ih =>
    simp only [List.map_cons, getD']
    by_cases e : o = a
    · subst e; simp
    · have ne : a ≠ o := fun z => e z.symm
      rw [if_neg (fun z => e (Sum.inr.inj z)), ih]
      simp [ne]
theorem ix_dct {O : List PySem.Str} {f : PySem.Str → D} {a : PySem.Str} (h : a ∈ O) : ixD (dct O f) (.str a) = some (f a) := by
  unfold dct
  rw [show D.str a = kD (.inr a) from rfl, ix_dk, getD_dct, if_pos h]
@[simp] theorem seq_dct (O : List PySem.Str) (f : PySem.Str → D) : seqD (dct O f) = some (O.map D.str) := by
  unfold dct; rw [seqD_dk, List.map_map]; rfl
@[simp] theorem list_dct (O : List PySem.Str) (f : PySem.Str → D) : listD (dct O f) = some (O.map D.str) := by
  show some ((O.map Sum.inr).map kD) = _
  rw [List.map_map]; rfl
@[simp] theorem len_dct (O : List PySem.Str) (f : PySem.Str → D) : lenV (dct O f) = some (.int (O.length : Nat)) := by
  unfold dct; rw [lenV_dk]; simp
@[simp] theorem isi_dct (T : String) (O : List PySem.Str) (f : PySem.Str → D) : isiV T (dct O f) = some (.bl (T == "dict")) := rfl
@[simp] theorem isNon_dct (O : List PySem.Str) (f : PySem.Str → D) : isNon (dct O f) = false := rfl
@[simp] theorem add_ii (i j : Int) : (addD (.int i) (.int j)).or (addL (.int i) (.int j)) = some (.int (i + j)) := rfl
/-- a loop over things of one kind -/
theorem for_on {α : Type} {f : α → D} {tg : D → M Unit} {body : M Fl} {E : D → Rho → Prop} {F : Fl → Rho → Prop} {xs : List α} {ρ : Rho} (I : Nat → Rho → Prop) (h0 : I 0 ρ)
    (st : ∀ i (hi : i < xs.length) ρ, I i ρ → Ev (tg (f xs[i]) ρ) (fun _ ρ => Ev (body ρ) (fun fl ρ => match fl with | .nx => I (i + 1) ρ | .ct => I (i + 1) ρ | .bk => F .nx ρ | fl => F fl ρ) E) (fun _ _ => False)) (h1 : ∀ ρ, I xs.length ρ → F .nx ρ) :
    Ev (forD tg body (xs.map f) ρ) F E := by
  refine for_inv I h0 (fun i d ρ hd hI => ?_) (fun ρ h => h1 ρ (by simpa using h))
  rw [List.getElem?_map] at hd
  cases e : xs[i]? with
  | none => rw [e] at hd; cases hd
  | some x =>
    rw [e] at hd
    cases hd
    obtain ⟨l, rfl⟩ := List.getElem?_eq_some_iff.1 e
    exact st i l ρ hI
/-- a comprehension over things of one kind -/
theorem comp_onR {α : Type} {f : α → D} {xs : List α} {vs : List Nat} {tg : D → M Unit} {tt : M Bool} {fe : M D} {ρ τ ρ' : Rho} {Q : D → Rho → Prop} {E : D → Rho → Prop} (p : α → Bool) (G : α → D) (h1 : wipeR vs ρ = τ) (h3 : restR vs ρ τ = ρ') (l : xs.length ≤ 16777216)
    (h : ∀ x ∈ xs, Ev (tg (f x) τ) (fun _ ρ1 => Ev (tt ρ1) (fun k ρ2 => k = p x ∧ (if k = true then Ev (fe ρ2) (fun y ρ3 => y = G x ∧ wipeR vs ρ3 = τ) NF else wipeR vs ρ2 = τ)) NF) NF) (q : Q (.lst ((xs.filter p).map G)) ρ') : Ev (compR vs tg tt fe (xs.map f) ρ) Q E := by
  have key : ∀ (xs : List α) (acc : List D), acc.length + xs.length ≤ 16777216 → (∀ x ∈ xs, Ev (tg (f x) τ) (fun _ ρ1 => Ev (tt ρ1) (fun k ρ2 => k = p x ∧ (if k = true then Ev (fe ρ2) (fun y ρ3 => y = G x ∧ wipeR vs ρ3 = τ) NF else wipeR vs ρ2 = τ)) NF) NF) → compD vs tg tt fe (xs.map f) acc τ = .ok (acc ++ (xs.filter p).map G) τ := by
    intro xs
    induction xs with
    | nil => intro acc _ _; simp [compD, ret_ap]
    | cons x xs ih =>
      intro acc l h
      have hd := h x List.mem_cons_self
      simp only [List.length_cons] at l
      have ih := fun acc' l' => ih acc' l' fun d m => h d (List.mem_cons_of_mem _ m)
      rw [List.map_cons]
      cases ht : tg (f x) τ with
      | er x ρ1 => rw [ht, y_er] at hd; exact hd.elim
      | st => rw [ht, y_st] at hd; exact hd.elim
      | ok u ρ1 =>
        rw [ht, y_ok] at hd
        cases hk : tt ρ1 with
        | er x ρ1 => rw [hk, y_er] at hd; exact hd.elim
        | st => rw [hk, y_st] at hd; exact hd.elim
        | ok k ρ2 =>
          rw [hk, y_ok] at hd
          obtain ⟨rfl, hd⟩ := hd
          cases hp : p x with
          | false =>
            rw [hp] at hd hk
            simp only [Bool.false_eq_true, if_false] at hd
            simp only [compD, ht, hk, hd]
            rw [ih acc (by omega), List.filter_cons_of_neg (by simp [hp])]
          | true =>
            rw [hp] at hd hk
            simp only [if_true] at hd
            cases hf : fe ρ2 with
            | er x ρ1 => rw [hf, y_er] at hd; exact hd.elim
            | st => rw [hf, y_st] at hd; exact hd.elim
            | ok y ρ3 =>
              rw [hf, y_ok] at hd
              obtain ⟨rfl, hw⟩ := hd
              simp only [compD, ht, hk, hf, hw]
              rw [if_pos (by omega), ih _ (by simp; omega), List.filter_cons_of_pos (by simp [hp])]
              simp
  have e := key xs [] (by simpa using l) h
  unfold compR
  rw [h1, e]
  simp only [List.nil_append, h3, y_ok]
  exact q
/-- without a filter -/
theorem comp_mapR {α : Type} {f : α → D} {xs : List α} {vs : List Nat} {tg : D → M Unit} {fe : M D} {ρ τ ρ' : Rho} {Q : D → Rho → Prop} {E : D → Rho → Prop} (G : α → D) (h1 : wipeR vs ρ = τ) (h3 : restR vs ρ τ = ρ') (l : xs.length ≤ 16777216)
    (h : ∀ x ∈ xs, Ev (tg (f x) τ) (fun _ ρ1 => Ev (fe ρ1) (fun y ρ3 => y = G x ∧ wipeR vs ρ3 = τ) NF) NF) (q : Q (.lst (xs.map G)) ρ') : Ev (compR vs tg (ret true) fe (xs.map f) ρ) Q E :=
  comp_onR (fun _ => true) G h1 h3 l (fun x m => (h x m).mono (fun _ _ z => by simpa using z) (fun _ _ z => z)) (by rw [show xs.filter (fun _ => true) = xs from List.filter_eq_self.2 (by simp)]; exact q)
theorem comp_on {α : Type} {f : α → D} {xs : List α} {vs : List Nat} {tg : D → M Unit} {tt : M Bool} {fe : M D} {ρ τ : Rho} {Q : D → Rho → Prop} {E : D → Rho → Prop} (p : α → Bool) (G : α → D) (h1 : wipeR vs ρ = τ) (h3 : restR vs ρ τ = ρ) (l : xs.length ≤ 16777216)
    (h : ∀ x ∈ xs, Ev (tg (f x) τ) (fun _ ρ1 => Ev (tt ρ1) (fun k ρ2 => k = p x ∧ (if k = true then Ev (fe ρ2) (fun y ρ3 => y = G x ∧ wipeR vs ρ3 = τ) NF else wipeR vs ρ2 = τ)) NF) NF) (q : Q (.lst ((xs.filter p).map G)) ρ) : Ev (compR vs tg tt fe (xs.map f) ρ) Q E := comp_onR p G h1 h3 l h q
theorem comp_map {α : Type} {f : α → D} {xs : List α} {vs : List Nat} {tg : D → M Unit} {fe : M D} {ρ τ : Rho} {Q : D → Rho → Prop} {E : D → Rho → Prop} (G : α → D) (h1 : wipeR vs ρ = τ) (h3 : restR vs ρ τ = ρ) (l : xs.length ≤ 16777216)
    (h : ∀ x ∈ xs, Ev (tg (f x) τ) (fun _ ρ1 => Ev (fe ρ1) (fun y ρ3 => y = G x ∧ wipeR vs ρ3 = τ) NF) NF) (q : Q (.lst (xs.map G)) ρ) : Ev (compR vs tg (ret true) fe (xs.map f) ρ) Q E := comp_mapR G h1 h3 l h q
end Wk

set_option Elab.async false
set_option linter.all false
set_option maxRecDepth 100000
namespace Wk
noncomputable section
open PySem PySem.Spec PySem.Calls L2 PyProof.Rows Qy
def gxxlaw_lot : M Fl := 
  gSeq (gSet 3 (gComp [4] (gI1 (gC1 lenV (gVar 1)) rng1) (gN 4) (gCmpT ltD (gBin modD (gC1 intV (gIx (gVar 0) (gVar 4))) (ret (.int 6))) (gVar 2)) (gIx (gVar 1) (gVar 4)))) (
  gSeq (gIf (gCmpT eqD (gC1 lenV (gVar 3)) (ret (.int 0))) (
  gSet 3 (gLst (gArg (gIx (gVar 1) (gBin modD (gC1 intV (gBin divD (gIx (gVar 0) (ret (.int 0))) (ret (.int 6)))) (gC1 lenV (gVar 1)))) (gNil)))) (
  gSkip)) (
  gSeq (gSet 5 (gBin modD (gC1 intV (gBin divD (gIx (gVar 0) (ret (.int 0))) (ret (.int 36)))) (gC1 lenV (gVar 3)))) (
  gRet (gTupOf (alt (gBin addD (alt (gSl slD (gVar 3) (gPart (gVar 5)) (ret none)) (gSl slL (gVar 3) (gPart (gVar 5)) (ret none))) (alt (gSl slD (gVar 3) (ret none) (gPart (gVar 5))) (gSl slL (gVar 3) (ret none) (gPart (gVar 5))))) (gBin addL (alt (gSl slD (gVar 3) (gPart (gVar 5)) (ret none)) (gSl slL (gVar 3) (gPart (gVar 5)) (ret none))) (alt (gSl slD (gVar 3) (ret none) (gPart (gVar 5))) (gSl slL (gVar 3) (ret none) (gPart (gVar 5))))))))))
def gxxlaw_lets : M Fl := 
  gSeq (gIf (gCmpT eqD (gIx (gVar 0) (ret (.int 0))) (ret (.str "not"))) (
  gRet (gNotV (gAndV (gCmp eqD (gVar 1) (gIx (gVar 0) (ret (.int 1)))) (gCmp eqD (gVar 2) (gIx (gVar 0) (ret (.int 2))))))) (
  gSkip)) (
  gSeq (gIf (gCmpT eqD (gIx (gVar 0) (ret (.int 0))) (ret (.str "this"))) (
  gSeq (gIf (gCmpT eqD (gVar 1) (gIx (gVar 0) (ret (.int 1)))) (
  gRet (gCmp eqD (gVar 2) (gIx (gVar 0) (ret (.int 2))))) (
  gSkip)) (
  gRet (gCmp neD (gVar 2) (gIx (gVar 0) (ret (.int 2)))))) (
  gSkip)) (
  gSeq (gIf (gCmpT eqD (gIx (gVar 0) (ret (.int 0))) (ret (.str "one"))) (
  gRet (gOrV (gCmp neD (gVar 1) (gIx (gVar 0) (ret (.int 1)))) (gCmp inD (gVar 2) (gIx (gVar 0) (ret (.int 2)))))) (
  gSkip)) (
  gSeq (gIf (gCmpT eqD (gIx (gVar 0) (ret (.int 0))) (ret (.str "from"))) (
  gRet (gOrV (gCmp neD (gVar 2) (gIx (gVar 0) (ret (.int 1)))) (gCmp inD (gVar 1) (gIx (gVar 0) (ret (.int 2)))))) (
  gSkip)) (
  gSeq (gIf (gCmpT eqD (gIx (gVar 0) (ret (.int 0))) (ret (.str "lot"))) (
  gRet (gOrV (gCmp notInD (gVar 1) (gIx (gVar 0) (ret (.int 1)))) (gCmp inD (gVar 2) (gIx (gVar 0) (ret (.int 2)))))) (
  gSkip)) (
  gRet (gNotV (gAndV (gCmp inD (gVar 1) (gIx (gVar 0) (ret (.int 1)))) (gCmp inD (gVar 2) (gIx (gVar 0) (ret (.int 2)))))))))))
def gxxlaw_kept : M Fl := 
  gSeq (gFor (gSeqI (gVar 1)) (gN 2) (
  gIf (gNotT (gTru (gCall [.sh, .sh, .sh] 0 gxxlaw_lets (gArg (gVar 0) (gArg (gVar 2) (gArg (gIx (gVar 1) (gVar 2)) (gNil))))))) (
  gRet (ret (.bl false))) (
  gSkip))) (
  gRet (ret (.bl true)))
end
end Wk

set_option Elab.async false
set_option linter.all false
set_option maxRecDepth 10000
set_option maxHeartbeats 0
/-! S11: leaks, and the pairs that they let -/
namespace Wk
open PySem PySem.Spec Qy
open L2 (Key)
inductive Leak where
  | nt (a b : PySem.Str)
  | ths (a b : PySem.Str)
  | one (a : PySem.Str) (T : List PySem.Str)
  | frm (b : PySem.Str) (G : List PySem.Str)
  | lot (G T : List PySem.Str)
  | nev (G T : List PySem.Str)
def tupS (T : List PySem.Str) : D := .tup (T.map D.str)
def lkD : Leak → D
  | .nt a b => .tup [.str "not", .str a, .str b]
  | .ths a b => .tup [.str "this", .str a, .str b]
  | .one a T => .tup [.str "one", .str a, tupS T]
  | .frm b G => .tup [.str "from", .str b, tupS G]
  | .lot G T => .tup [.str "lot", tupS G, tupS T]
  | .nev G T => .tup [.str "never", tupS G, tupS T]
/-- does the leak let the pair -/
def letB : Leak → PySem.Str → PySem.Str → Bool
  | .nt a b, g, t => !decide (g = a) || !decide (t = b)
  | .ths a b, g, t => decide (g = a) == decide (t = b)
  | .one a T, g, t => !decide (g = a) || decide (t ∈ T)
  | .frm b G, g, t => !decide (t = b) || decide (g ∈ G)
  | .lot G T, g, t => !decide (g ∈ G) || decide (t ∈ T)
  | .nev G T, g, t => !decide (g ∈ G) || !decide (t ∈ T)
/-- a lot of people -/
structure LotOk (S T : List PySem.Str) : Prop where
  ne : T ≠ []
  nd : T.Nodup
  sub : ∀ t ∈ T, t ∈ S
def LkOk (S : List PySem.Str) : Leak → Prop
  | .nt a b => a ∈ S ∧ b ∈ S ∧ a ≠ b
  | .ths a b => a ∈ S ∧ b ∈ S ∧ a ≠ b
  | .one a T => a ∈ S ∧ LotOk S T
  | .frm b G => b ∈ S ∧ LotOk S G
  | .lot G T => LotOk S G ∧ LotOk S T
  | .nev G T => LotOk S G ∧ LotOk S T
theorem ix3a (x y z : D) : ixD (.tup [x, y, z]) (.int 0) = some x := rfl
theorem ix3b (x y z : D) : ixD (.tup [x, y, z]) (.int 1) = some y := rfl
theorem ix3c (x y z : D) : ixD (.tup [x, y, z]) (.int 2) = some z := rfl
theorem sh_w {s : PySem.Str} (h : nameB s = true) : Sh 16777216 s := (sh_name h).mono (by omega)
theorem w_not : Sh 16777216 "not" := sh_w (by decide +kernel)
theorem w_this : Sh 16777216 "this" := sh_w (by decide +kernel)
theorem w_one : Sh 16777216 "one" := sh_w (by decide +kernel)
theorem w_from : Sh 16777216 "from" := sh_w (by decide +kernel)
theorem w_lot : Sh 16777216 "lot" := sh_w (by decide +kernel)
theorem w_never : Sh 16777216 "never" := sh_w (by decide +kernel)
theorem e_not {s : PySem.Str} (h : Sh 16777216 s) : eqD (.str s) (.str "not") = some (decide (s = "not")) := eq_sh h w_not
theorem e_this {s : PySem.Str} (h : Sh 16777216 s) : eqD (.str s) (.str "this") = some (decide (s = "this")) := eq_sh h w_this
theorem e_one {s : PySem.Str} (h : Sh 16777216 s) : eqD (.str s) (.str "one") = some (decide (s = "one")) := eq_sh h w_one
theorem e_from {s : PySem.Str} (h : Sh 16777216 s) : eqD (.str s) (.str "from") = some (decide (s = "from")) := eq_sh h w_from
theorem e_lot {s : PySem.Str} (h : Sh 16777216 s) : eqD (.str s) (.str "lot") = some (decide (s = "lot")) := eq_sh h w_lot
theorem ni_strT (s : PySem.Str) (S : List PySem.Str) : notInD (.str s) (.tup (S.map D.str)) = some (!decide (s ∈ S)) := by
  unfold notInD; rw [in_strT]; rfl
/-- the words, one against the other -/
theorem ww : (("this" : PySem.Str) = "not") = False ∧ (("one" : PySem.Str) = "not") = False ∧ (("from" : PySem.Str) = "not") = False ∧ (("lot" : PySem.Str) = "not") = False ∧ (("never" : PySem.Str) = "not") = False ∧
    (("one" : PySem.Str) = "this") = False ∧ (("from" : PySem.Str) = "this") = False ∧ (("lot" : PySem.Str) = "this") = False ∧ (("never" : PySem.Str) = "this") = False ∧
    (("from" : PySem.Str) = "one") = False ∧ (("lot" : PySem.Str) = "one") = False ∧ (("never" : PySem.Str) = "one") = False ∧ (("lot" : PySem.Str) = "from") = False ∧ (("never" : PySem.Str) = "from") = False ∧ (("never" : PySem.Str) = "lot") = False := by
  simp only [eq_iff_iff, iff_false]
  decide +kernel
/-- the texts of a leak -/
def LkSh : Leak → Prop
  | .nt a b => Sh 16777216 a ∧ Sh 16777216 b
  | .ths a b => Sh 16777216 a ∧ Sh 16777216 b
  | .one a T => Sh 16777216 a
  | .frm b G => Sh 16777216 b
  | .lot G T => True
  | .nev G T => True
theorem LkOk.sh {S : List PySem.Str} (hS : ∀ s ∈ S, Sh 16777216 s) {l : Leak} (h : LkOk S l) : LkSh l := by
  cases l with
  | nt a b => exact ⟨hS _ h.1, hS _ h.2.1⟩
  | ths a b => exact ⟨hS _ h.1, hS _ h.2.1⟩
  | one a T => exact hS _ h.1
  | frm b G => exact hS _ h.1
  | lot G T => trivial
  | nev G T => trivial
theorem law_lets {l : Leak} (h : LkSh l) {a b : PySem.Str} (ha : Sh 16777216 a) (hb : Sh 16777216 b) : Gv [.sh, .sh, .sh] 0 gxxlaw_lets [lkD l, .str a, .str b] (fun r => r = .bl (letB l a b)) NoX := by
  obtain ⟨w1, w2, w3, w4, w5, w6, w7, w8, w9, w10, w11, w12, w13, w14, w15⟩ := ww
  cases l with
  | nt c d =>
    have c1 := eq_sh ha h.1; have c2 := eq_sh hb h.2
    simp -implicitDefEqProofs [Gv, gxxlaw_lets, rho0, rho1, List.replicate, lkD, ix3a, ix3b, ix3c, e_not w_not, c1, c2, blP_b, letB]
    by_cases z1 : a = c <;> by_cases z2 : b = d <;> simp [z1, z2]
  | ths c d =>
    have c1 := eq_sh ha h.1; have c2 := eq_sh hb h.2; have c3 := ne_sh hb h.2
    simp -implicitDefEqProofs [Gv, gxxlaw_lets, rho0, rho1, List.replicate, lkD, ix3a, ix3b, ix3c, e_not w_this, e_this w_this, c1, c2, c3, blP_b, letB, w1]
    by_cases z1 : a = c <;> by_cases z2 : b = d <;> simp [z1, z2]
  | one c T =>
    have c1 := ne_sh ha h
    simp -implicitDefEqProofs [Gv, gxxlaw_lets, rho0, rho1, List.replicate, lkD, ix3a, ix3b, ix3c, e_not w_one, e_this w_one, e_one w_one, c1, blP_b, letB, w2, w6, tupS, in_strT]
    by_cases z1 : a = c <;> simp [z1]
  | frm c T =>
    have c1 := ne_sh hb h
    simp -implicitDefEqProofs [Gv, gxxlaw_lets, rho0, rho1, List.replicate, lkD, ix3a, ix3b, ix3c, e_not w_from, e_this w_from, e_one w_from, e_from w_from, c1, blP_b, letB, w3, w7, w10, tupS, in_strT]
    by_cases z1 : b = c <;> simp [z1]
  | lot G T =>
    simp -implicitDefEqProofs [Gv, gxxlaw_lets, rho0, rho1, List.replicate, lkD, ix3a, ix3b, ix3c, e_not w_lot, e_this w_lot, e_one w_lot, e_from w_lot, e_lot w_lot, blP_b, letB, w4, w8, w11, w13, tupS, in_strT, ni_strT]
    by_cases z1 : a ∈ G <;> simp [z1]
  | nev G T =>
    simp -implicitDefEqProofs [Gv, gxxlaw_lets, rho0, rho1, List.replicate, lkD, ix3a, ix3b, ix3c, e_not w_never, e_this w_never, e_one w_never, e_from w_never, e_lot w_never, blP_b, letB, w5, w9, w12, w14, w15, tupS, in_strT, ni_strT]
    by_cases z1 : a ∈ G <;> by_cases z2 : b ∈ T <;> simp [z1, z2]
/-- a loop over things that are asked, until one says no -/
theorem for_all {α : Type} {f : α → D} {p : α → Bool} {tg : D → M Unit} {body : M Fl} {E : D → Rho → Prop} {F : Fl → Rho → Prop} {xs : List α} {ρ : Rho} (I : Rho → Prop) (h0 : I ρ)
    (st : ∀ x ∈ xs, ∀ ρ, I ρ → Ev (tg (f x) ρ) (fun _ ρ => Ev (body ρ) (fun fl ρ => if p x = true then fl = .nx ∧ I ρ else (∀ ρ', I ρ' → True) ∧ fl = .rt (.bl false)) E) (fun _ _ => False))
    (h1 : ∀ ρ, I ρ → xs.all p = true → F .nx ρ) (h2 : ∀ ρ, xs.all p = false → F (.rt (.bl false)) ρ) : Ev (forD tg body (xs.map f) ρ) F E := by
  induction xs generalizing ρ with
  | nil => rw [show forD tg body ([].map f) ρ = .ok .nx ρ from rfl, y_ok]; exact h1 ρ h0 rfl
  | cons x xs ih =>
    have q := st x List.mem_cons_self ρ h0
    simp only [List.map_cons, forD]
    cases ht : tg (f x) ρ with
    | ok u ρ1 =>
      rw [ht] at q
      simp only [y_ok] at q ⊢
      cases hb : body ρ1 with
      | ok fl ρ2 =>
        rw [hb, y_ok] at q
        by_cases hp : p x = true
        · rw [if_pos hp] at q
          obtain ⟨rfl, i2⟩ := q
          exact ih i2 (fun y m => st y (List.mem_cons_of_mem _ m)) (fun ρ i e => h1 ρ i (by rw [List.all_cons, hp, e]; rfl)) (fun ρ e => h2 ρ (by rw [List.all_cons, e]; simp))
        · rw [if_neg hp] at q
          obtain ⟨_, rfl⟩ := q
          simp only [y_ok]
          exact h2 ρ2 (by rw [List.all_cons]; simp [hp])
      | er x ρ2 =>
        rw [hb] at q
        unfold Ev at q ⊢; exact q
      | st =>
        rw [hb] at q
        unfold Ev at q ⊢; exact q
    | er x ρ1 =>
      rw [ht] at q
      unfold Ev at q; exact q.elim
    | st =>
      rw [ht] at q
      unfold Ev at q; exact q.elim
theorem gv_call3 {n : Nat} {g : M Fl} {x y z : D} {P X : D → Prop} {ρ : Rho} {Q : D → Rho → Prop} {E : D → Rho → Prop} (h : Gv [.sh, .sh, .sh] n g [x, y, z] P X) (q : ∀ d, P d → Q d ρ) (e : ∀ d, X d → E d ρ) : Ev (callD [.sh, .sh, .sh] n g [.v x, .v y, .v z] ρ) Q E :=
  gv_call h rfl rfl q e
end Wk

set_option Elab.async false
set_option linter.all false
set_option maxRecDepth 10000
set_option maxHeartbeats 0
/-! S12: the drawn world: a hidden drawing, lots, leaks -/
namespace Wk
open PySem PySem.Spec Qy
open L2 (Key)
theorem add_lst (xs ys : List D) (h : xs.length + ys.length ≤ 16777216) : (addD (.lst xs) (.lst ys)).or (addL (.lst xs) (.lst ys)) = some (.lst (xs ++ ys)) := by
  show (none : Option D).or (if xs.length + ys.length ≤ 16777216 then some (D.lst (xs ++ ys)) else none) = _
  rw [if_pos h]; rfl
theorem cut_from {α : Type} (xs : List α) (k : Nat) : cutL xs (some (k : Int)) none = xs.drop k := by
  unfold cutL HT.sIx
  have h : ¬ ((k : Int) < 0) := by omega
  simp only [h, if_false, Int.toNat_natCast]
  rcases Nat.le_total k xs.length with l | l
  · rw [Nat.min_eq_left l, List.take_of_length_le (by simp)]
  · rw [Nat.min_eq_right l, Nat.sub_self, List.take_zero, List.drop_of_length_le l]
theorem sl_from (xs : List D) (k : Nat) : (slD (.lst xs) (some (k : Int)) none).or (slL (.lst xs) (some (k : Int)) none) = some (.lst (xs.drop k)) := by
  show (none : Option D).or (some (D.lst (cutL xs (some (k : Int)) none))) = _
  rw [cut_from]; rfl
/-- a remainder as a natural number -/
theorem nat_mod (a : Int) {n : Nat} (h : 0 < n) : ∃ m : Nat, a % (n : Int) = m ∧ m < n := ⟨(a % (n : Int)).toNat, by have := Int.emod_nonneg a (b := (n : Int)) (by omega); omega, by have := Int.emod_lt_of_pos a (b := (n : Int)) (by omega); have := Int.emod_nonneg a (b := (n : Int)) (by omega); omega⟩
/-- a drawing of the people: a dict, and what it says -/
structure Hid (S O : List PySem.Str) (f : PySem.Str → PySem.Str) : Prop where
  perm : O.Perm S
  mem : ∀ a ∈ O, f a ∈ S
  ne : ∀ a ∈ O, f a ≠ a
  inj : ∀ a ∈ O, ∀ b ∈ O, f a = f b → a = b
def fd (f : PySem.Str → PySem.Str) : PySem.Str → D := fun a => .str (f a)
theorem idx_at {O : List PySem.Str} (nd : O.Nodup) {i : Nat} (h : i < O.length) : plc O O[i] = i := by
  have m := List.getElem_mem h
  have := plc_at (S := O) (s := O[i]) m
  exact nd_inj nd this
theorem lot_rot {S T : List PySem.Str} (h : LotOk S T) (m : Nat) : LotOk S (T.drop m ++ T.take m) := by
  have p : (T.drop m ++ T.take m).Perm T := (List.perm_append_comm).trans (by rw [List.take_append_drop])
  refine ⟨fun e => h.ne ?_, p.nodup_iff.2 h.nd, fun t mt => h.sub t (p.mem_iff.1 mt)⟩
  have := p.length_eq
  rw [e] at this
  exact List.eq_nil_of_length_eq_zero this.symm
theorem lot {S : List PySem.Str} {L : List Int} (hS : Ppl S) (l2 : 2 ≤ S.length) (l24 : S.length ≤ 24) (hL : S.length ≤ L.length) (w : Int) : Gv [.sh, .sh, .sh] 3 gxxlaw_lot [.lst (L.map D.int), .lst (S.map D.str), .int w] (fun d => ∃ T, d = tupS T ∧ LotOk S T) NoX := by
  have x0 := ix_int (L := L) 0 0 rfl (by omega)
  generalize L.getD 0 0 = a0 at *
  simp -implicitDefEqProofs [Gv, gxxlaw_lot, rho0, rho1, List.replicate]
  refine ⟨by omega, ?_⟩
  have er : rng 0 (S.length : Int) = (List.range S.length).map fun i : Nat => D.int (i : Int) := by
    unfold rng; simp
  rw [er]
  refine comp_on (fun i : Nat => decide (L.getD i 0 % 6 < w)) (fun i => .str (S.getD i "")) (τ := [.sh (.lst (L.map D.int)), .sh (.lst (S.map D.str)), .sh (.int w), .no, .no, .no]) rfl rfl (by simp; omega) ?_ ?_
  · intro i mi
    have hi : i < S.length := List.mem_range.1 mi
    have x1 := ix_int (L := L) (i : Int) i rfl (by omega)
    have x2 := ix_str' (S := S) (i : Int) i rfl hi
    have x3 : S.getD i "" = S[i] := by simp [hi]
    rw [x3]
    generalize L.getD i 0 = a1 at *
    simp -implicitDefEqProofs [x1, x2]
    rfl
  · obtain ⟨T0, hT0⟩ : ∃ T0, T0 = ((List.range S.length).filter fun i : Nat => decide (L.getD i 0 % 6 < w)).map fun i => S.getD i "" := ⟨_, rfl⟩
    have e0 : (((List.range S.length).filter fun i : Nat => decide (L.getD i 0 % 6 < w)).map fun i => D.str (S.getD i "")) = T0.map D.str := by rw [hT0, List.map_map]; rfl
    rw [e0]
    have sub : T0.Sublist S := by
      have h1 : ((List.range S.length).map fun i => S.getD i "") = S := by
        apply List.ext_getElem (by simp)
        intro i h1 h2
        simp at h1
        simp [h1]
      have h2 := (List.filter_sublist (l := List.range S.length) (p := fun i : Nat => decide (L.getD i 0 % 6 < w))).map fun i => S.getD i ""
      rw [h1, ← hT0] at h2
      exact h2
    have nd0 := hS.1.sublist sub
    have l0 : T0.length ≤ 24 := Nat.le_trans sub.length_le l24
    have fin : ∀ T : List PySem.Str, LotOk S T → T.length ≤ 24 → Ev (gSeq (gSet 5 (gBin modD (gC1 intV (gBin divD (gIx (gVar 0) (ret (.int 0))) (ret (.int 36)))) (gC1 lenV (gVar 3)))) (
  gRet (gTupOf (alt (gBin addD (alt (gSl slD (gVar 3) (gPart (gVar 5)) (ret none)) (gSl slL (gVar 3) (gPart (gVar 5)) (ret none))) (alt (gSl slD (gVar 3) (ret none) (gPart (gVar 5))) (gSl slL (gVar 3) (ret none) (gPart (gVar 5))))) (gBin addL (alt (gSl slD (gVar 3) (gPart (gVar 5)) (ret none)) (gSl slL (gVar 3) (gPart (gVar 5)) (ret none))) (alt (gSl slD (gVar 3) (ret none) (gPart (gVar 5))) (gSl slL (gVar 3) (ret none) (gPart (gVar 5)))))))) [.sh (.lst (L.map D.int)), .sh (.lst (S.map D.str)), .sh (.int w), .sh (.lst (T.map D.str)), .no, .no]) (fun fl _ => retP (fun d => ∃ T, d = tupS T ∧ LotOk S T) fl) (fun e _ => NoX e) := by
      intro T hT lT
      have pT : 0 < T.length := List.length_pos_iff.2 hT.ne
      obtain ⟨m, hm, lm⟩ := nat_mod (a0 / 36) pT
      have sf := sl_from (T.map D.str) m
      have st := slLst (T.map D.str) m
      have a1 := add_lst ((T.map D.str).drop m) ((T.map D.str).take m) (by simp; omega)
      simp -implicitDefEqProofs [x0, hm, sf, st, a1]
      exact ⟨List.length_pos_iff.2 hT.ne, T.drop m ++ T.take m, by simp [tupS, List.map_drop, List.map_take], lot_rot hT m⟩
    by_cases hz : T0 = []
    · subst hz
      obtain ⟨m, hm, lm⟩ := nat_mod (a0 / 6) (n := S.length) (by omega)
      have x2 := ix_str' (S := S) (m : Int) m rfl lm
      simp -implicitDefEqProofs [x0, hm, x2]
      have sf : (slD (.lst [D.str S[m]]) (some 0) none).or (slL (.lst [D.str S[m]]) (some 0) none) = some (.lst [D.str S[m]]) := sl_from _ 0
      have st : (slD (.lst [D.str S[m]]) none (some 0)).or (slL (.lst [D.str S[m]]) none (some 0)) = some (.lst []) := slLst _ 0
      have a1 := add_lst [D.str S[m]] [] (by simp)
      simp -implicitDefEqProofs [sf, st, a1]
      exact ⟨by omega, [S[m]], rfl, by simp, by simp, by simp⟩
    · have fz := fin T0 ⟨hz, nd0, fun t m => sub.subset m⟩ l0
      simp -implicitDefEqProofs [hz]
      simp -implicitDefEqProofs [hz] at fz
      exact fz
end Wk

set_option Elab.async false
set_option linter.all false
set_option maxRecDepth 10000
set_option maxHeartbeats 0
/-! S13: a drawn leak; the leaks that a drawing keeps, mended leaks; the world -/
namespace Wk
open PySem PySem.Spec Qy
open L2 (Key)
theorem kept {S O : List PySem.Str} {f : PySem.Str → PySem.Str} {l : Leak} (hS : ∀ s ∈ S, Sh 16777216 s) (hf : Hid S O f) (h : LkSh l) : Gv [.sh, .sh] 1 gxxlaw_kept [lkD l, dct O (fd f)] (fun r => r = .bl (O.all fun a => letB l a (f a))) NoX := by
  simp -implicitDefEqProofs [Gv, gxxlaw_kept, rho0, rho1, List.replicate]
  refine for_all (p := fun a => letB l a (f a)) (fun ρ => ∃ s, ρ = [.sh (lkD l), .sh (dct O (fd f)), s]) ⟨_, rfl⟩ ?_ ?_ ?_
  · rintro a m ρ ⟨s, rfl⟩
    have x := ix_dct (f := fd f) m
    simp -implicitDefEqProofs [x]
    refine gv_call3 (law_lets h (hS _ (hf.perm.mem_iff.1 m)) (hS _ (hf.mem a m))) ?_ (fun _ h => h.elim)
    rintro _ rfl
    by_cases z : letB l a (f a) = true <;> simp -implicitDefEqProofs [z]
  · rintro ρ ⟨s, rfl⟩ e
    simp -implicitDefEqProofs [e]
  · rintro ρ e
    simp -implicitDefEqProofs [e]
theorem map_nd {A : List PySem.Str} {f : PySem.Str → PySem.Str} (nd : A.Nodup) (inj : ∀ a ∈ A, ∀ b ∈ A, f a = f b → a = b) : (A.map f).Nodup := by
  induction A with
  | nil => simp
  | cons a A ih =>
    rw [List.nodup_cons] at nd
    rw [List.map_cons, List.nodup_cons]
    refine ⟨fun m => ?_, ih nd.2 fun x mx y my => inj x (List.mem_cons_of_mem _ mx) y (List.mem_cons_of_mem _ my)⟩
    obtain ⟨b, mb, e⟩ := List.mem_map.1 m
    have := inj b (List.mem_cons_of_mem _ mb) a List.mem_cons_self e
    subst this
    exact nd.1 mb
end Wk

set_option Elab.async false
set_option linter.all false
set_option maxRecDepth 10000
set_option maxHeartbeats 0
/-! S14: the world; the rows of the free takers, as the law tells them -/
namespace Wk
open PySem PySem.Spec Qy
open L2 (Key)
theorem rng_nat (n : Nat) : rng 0 (n : Int) = (List.range n).map fun i : Nat => D.int (i : Int) := by
  unfold rng; simp
end Wk

set_option Elab.async false
set_option linter.all false
set_option maxRecDepth 10000
set_option maxHeartbeats 0
/-! S15: what is a leak; the rows; books -/
namespace Wk
open PySem PySem.Spec Qy
open L2 (Key)
def lotB (S : List PySem.Str) : D → Bool
  | .tup xs => decide (1 ≤ xs.length) && diffB S xs
  | _ => false
/-! ### leaks of data -/
theorem badI_str {S T : List PySem.Str} {i : Nat} (h : i < T.length) : badI (persB S) (T.map D.str) i = (!decide (T[i] ∈ S) || decide (T[i] ∈ T.take i)) := by
  unfold badI
  have e : (T.map D.str).getD i .non = .str T[i] := by simp [List.getD, h]
  rw [e]
  congr 1
  rw [← List.map_take, Bool.eq_iff_iff]
  simp only [List.any_eq_true, List.mem_map, decide_eq_true_eq]
  constructor
  · rintro ⟨_, ⟨t, mt, rfl⟩, e⟩
    rw [deq_s] at e
    rw [← of_decide_eq_true e]; exact mt
  · intro m
    exact ⟨_, ⟨_, m, rfl⟩, by rw [deq_s]; simp⟩
theorem diffB_str (S T : List PySem.Str) : diffB S (T.map D.str) = true ↔ T.Nodup ∧ ∀ t ∈ T, t ∈ S := by
  unfold diffB
  rw [Option.isNone_iff_eq_none]
  constructor
  · intro h
    have f := first_none' h
    simp only [List.length_map] at f
    have f2 : ∀ i (hi : i < T.length), T[i] ∈ S ∧ T[i] ∉ T.take i := fun i hi => by
      have := f i hi
      rw [badI_str hi] at this
      simpa using this
    refine ⟨?_, fun t m => ?_⟩
    · rw [List.Nodup, List.pairwise_iff_getElem]
      intro i j hi hj lt e
      refine (f2 j hj).2 ?_
      rw [← e]
      exact List.mem_take_iff_getElem.2 ⟨i, by omega, rfl⟩
    · obtain ⟨i, hi, rfl⟩ := List.mem_iff_getElem.1 m
      exact (f2 i hi).1
  · rintro ⟨nd, sub⟩
    refine first_none fun j hj => ?_
    simp only [List.length_map] at hj
    rw [badI_str hj]
    have m : T[j] ∉ T.take j := fun z => by
      obtain ⟨i, hi, e⟩ := List.mem_take_iff_getElem.1 z
      have := nd_inj nd e
      omega
    simp [m, sub _ (List.getElem_mem hj)]
theorem diffB_all {S : List PySem.Str} {xs : List D} (h : diffB S xs = true) : ∃ T : List PySem.Str, xs = T.map D.str := by
  unfold diffB at h
  rw [Option.isNone_iff_eq_none] at h
  have f := first_none' h
  have all : ∀ x ∈ xs, ∃ s : PySem.Str, x = .str s := fun x m => by
    obtain ⟨i, hi⟩ := List.mem_iff_getElem?.1 m
    have := f i (List.getElem?_eq_some_iff.1 hi).1
    simp [badI, List.getD, hi] at this
    cases x <;> first | exact ⟨_, rfl⟩ | (simp [persB] at this)
  clear f h
  induction xs with
  | nil => exact ⟨[], rfl⟩
  | cons x xs ih =>
    obtain ⟨T, rfl⟩ := ih fun x m => all x (List.mem_cons_of_mem _ m)
    obtain ⟨s, rfl⟩ := all x List.mem_cons_self
    exact ⟨s :: T, rfl⟩
theorem lotB_iff {S : List PySem.Str} {d : D} : lotB S d = true ↔ ∃ T, d = tupS T ∧ LotOk S T := by
  constructor
  · intro h
    cases d <;> try (cases h; done)
    rename_i xs
    simp only [lotB, Bool.and_eq_true, decide_eq_true_eq] at h
    obtain ⟨T, rfl⟩ := diffB_all h.2
    obtain ⟨nd, sub⟩ := (diffB_str S T).1 h.2
    exact ⟨T, rfl, fun e => by subst e; simp at h, nd, sub⟩
  · rintro ⟨T, rfl, h⟩
    simp only [lotB, tupS, Bool.and_eq_true, decide_eq_true_eq, List.length_map]
    exact ⟨List.length_pos_iff.2 h.ne, (diffB_str S T).2 ⟨h.nd, h.sub⟩⟩
/-! ### rows -/
def lstS (T : List PySem.Str) : D := .lst (T.map D.str)
end Wk

set_option Elab.async false
set_option linter.all false
set_option maxRecDepth 10000
set_option maxHeartbeats 0
/-! S16: books -/
namespace Wk
open PySem PySem.Spec Qy
open L2 (Key)
@[simp] theorem list_lstS (T : List PySem.Str) : listD (lstS T) = some (T.map D.str) := rfl
end Wk

set_option Elab.async false
set_option linter.all false
set_option maxRecDepth 10000
set_option maxHeartbeats 0
/-! S17: drawings of the law, drawings of the program -/
namespace Wk
open PySem PySem.Spec Qy
open L2 (Key)
@[simp] theorem seq_lstS (T : List PySem.Str) : seqD (lstS T) = some (T.map D.str) := rfl
end Wk

set_option Elab.async false
set_option linter.all false
set_option maxRecDepth 10000
set_option maxHeartbeats 0
/-! S18: what is a drawing -/
namespace Wk
open PySem PySem.Spec Qy
open L2 (Key)
/-- a drawing: the dict, and what it says -/
def Drg (S : List PySem.Str) (R : PySem.Str → List PySem.Str) (d : D) (f : PySem.Str → PySem.Str) : Prop :=
  (∃ ks xs, d = .dk ks xs ∧ ks.length = S.length ∧ ∀ a ∈ S, getD' ks xs (.inr a) = some (.str (f a))) ∧ (∀ a ∈ S, f a ∈ R a) ∧ ∀ a ∈ S, ∀ b ∈ S, f a = f b → a = b
/-- the takers of the first so many people -/
structure Up (S : List PySem.Str) (R : PySem.Str → List PySem.Str) (ks : List Key) (xs : List D) (i : Nat) (U : List PySem.Str) : Prop where
  len : U.length = i
  nd : U.Nodup
  got : ∀ j (h : j < S.length) (k : j < U.length), getD' ks xs (.inr S[j]) = some (.str U[j])
  mem : ∀ j (h : j < S.length) (k : j < U.length), U[j] ∈ R S[j]
theorem Up.add {S : List PySem.Str} {R : PySem.Str → List PySem.Str} {ks : List Key} {xs : List D} {i : Nat} {U : List PySem.Str} (h : Up S R ks xs i U) (hi : i < S.length) {b : PySem.Str} (g : getD' ks xs (.inr S[i]) = some (.str b)) (m : b ∈ R S[i]) (n : b ∉ U) : Up S R ks xs (i + 1) (U ++ [b]) := by
  have l := h.len
  refine ⟨by simp [l], ?_, fun j hj k => ?_, fun j hj k => ?_⟩
  · rw [List.nodup_append]
    exact ⟨h.nd, by simp, fun x mx y my e => n (by rw [List.mem_singleton] at my; rw [← my, ← e]; exact mx)⟩
  · simp at k
    by_cases c : j < U.length
    · simpa [List.getElem_append, c] using h.got j hj c
    · have : j = i := by omega
      subst this
      simpa [List.getElem_append, c] using g
  · simp at k
    by_cases c : j < U.length
    · simpa [List.getElem_append, c] using h.mem j hj c
    · have : j = i := by omega
      subst this
      simpa [List.getElem_append, c] using m
theorem Up.of {S : List PySem.Str} {R : PySem.Str → List PySem.Str} {ks : List Key} {xs : List D} {i : Nat} {U : List PySem.Str} (h : Up S R ks xs i U) (hi : i < S.length) {f : PySem.Str → PySem.Str} (d : Drg S R (.dk ks xs) f) (nd : S.Nodup) : getD' ks xs (.inr S[i]) = some (.str (f S[i])) ∧ f S[i] ∈ R S[i] ∧ f S[i] ∉ U := by
  obtain ⟨⟨ks', xs', e, l, g⟩, m, inj⟩ := d
  cases e
  have ms := List.getElem_mem hi
  refine ⟨g _ ms, m _ ms, fun z => ?_⟩
  obtain ⟨j, hj, e⟩ := List.mem_iff_getElem.1 z
  have l := h.len
  have g2 := h.got j (by omega) hj
  have g3 := g S[j] (List.getElem_mem (by omega))
  rw [g2] at g3
  injection g3 with g3
  injection g3 with g3
  rw [g3] at e
  have e2 := nd_inj nd (inj _ (List.getElem_mem (by omega)) _ ms e)
  omega
/-- the answer b says whether p -/
def Says1 (p : Prop) (r : D) : Prop := ∃ b : Bool, r = .bl b ∧ (b = true ↔ p)
theorem Says1.eq {p q : Prop} {r s : D} (h : Says1 p r) (k : Says1 q s) (e : p ↔ q) : ∃ b : Bool, r = .bl b ∧ s = .bl b := by
  obtain ⟨b, rfl, hb⟩ := h
  obtain ⟨c, rfl, hc⟩ := k
  refine ⟨b, rfl, ?_⟩
  have : b = c := by rw [Bool.eq_iff_iff, hb, hc, e]
  rw [this]
end Wk

set_option Elab.async false
set_option linter.all false
set_option maxRecDepth 10000
set_option maxHeartbeats 0
/-! S19: full pairings, no program in sight -/
namespace Wk
open PySem PySem.Spec Qy
/-- each person of S has another taker -/
structure PM (S : List PySem.Str) (R : PySem.Str → List PySem.Str) (f : PySem.Str → PySem.Str) : Prop where
  mem : ∀ a ∈ S, f a ∈ R a
  inj : ∀ a ∈ S, ∀ b ∈ S, f a = f b → a = b
section
variable {S : List PySem.Str} {R : PySem.Str → List PySem.Str} {f o : PySem.Str → PySem.Str}
/-- too few takers -/
theorem hall {G T : List PySem.Str} (nd : G.Nodup) (sub : ∀ g ∈ G, g ∈ S) (all : ∀ g ∈ G, ∀ t ∈ R g, t ∈ T) (lt : T.length < G.length) : ¬ PM S R f := fun h => by
  have n2 := map_nd (f := f) nd fun a ma b mb => h.inj a (sub a ma) b (sub b mb)
  have := nd_len n2 (B := T) fun t m => by
    obtain ⟨g, mg, rfl⟩ := List.mem_map.1 m
    exact all g mg _ (h.mem g (sub g mg))
  simp at this
  omega
/-- from x to a by passing on -/
inductive Rch (R : PySem.Str → List PySem.Str) (o : PySem.Str → PySem.Str) (a : PySem.Str) : PySem.Str → Prop where
  | refl : Rch R o a a
  | head {x t : PySem.Str} : t ∈ R x → Rch R o a (o t) → Rch R o a x
/-- the next one round a ring -/
def nxt (L : List PySem.Str) (x : PySem.Str) : PySem.Str := if h : x ∈ L then L[(plc L x + 1) % L.length]'(Nat.mod_lt _ (List.length_pos_of_mem h)) else x
theorem nxt_at {L : List PySem.Str} (nd : L.Nodup) {i : Nat} (hi : i < L.length) : nxt L L[i] = L[(i + 1) % L.length]'(Nat.mod_lt _ (by omega)) := by
  unfold nxt
  rw [dif_pos (List.getElem_mem hi)]
  simp only [idx_at nd hi]
theorem nxt_out {L : List PySem.Str} {x : PySem.Str} (h : x ∉ L) : nxt L x = x := dif_neg h
theorem nxt_mem {L : List PySem.Str} {x : PySem.Str} (h : x ∈ L) : nxt L x ∈ L := by
  unfold nxt
  rw [dif_pos h]
  exact List.getElem_mem _
theorem nxt_inj {L : List PySem.Str} (nd : L.Nodup) {x y : PySem.Str} (e : nxt L x = nxt L y) : x = y := by
  by_cases hx : x ∈ L <;> by_cases hy : y ∈ L
  · obtain ⟨i, hi, rfl⟩ := List.mem_iff_getElem.1 hx
    obtain ⟨j, hj, rfl⟩ := List.mem_iff_getElem.1 hy
    rw [nxt_at nd hi, nxt_at nd hj] at e
    have e := nd_inj nd e
    have : i = j := by
      rcases Nat.lt_or_ge (i + 1) L.length with h | h <;> rcases Nat.lt_or_ge (j + 1) L.length with k | k
      · rw [Nat.mod_eq_of_lt h, Nat.mod_eq_of_lt k] at e; omega
      · rw [Nat.mod_eq_of_lt h, Nat.mod_eq_sub_mod k, Nat.mod_eq_of_lt (by omega)] at e; omega
      · rw [Nat.mod_eq_sub_mod h, Nat.mod_eq_of_lt (by omega), Nat.mod_eq_of_lt k] at e; omega
      · omega
    subst this; rfl
  · rw [nxt_out hy] at e
    exact absurd (by rw [← e]; exact nxt_mem hx) hy
  · rw [nxt_out hx] at e
    exact absurd (by rw [e]; exact nxt_mem hy) hx
  · rwa [nxt_out hx, nxt_out hy] at e
/-- a drawing after one ring of exchange -/
theorem PM.turn (h : PM S R f) {L : List PySem.Str} (nd : L.Nodup) (sub : ∀ x ∈ L, x ∈ S) (ok : ∀ x ∈ L, f (nxt L x) ∈ R x) : PM S R (fun x => f (nxt L x)) := by
  have inS : ∀ x ∈ S, nxt L x ∈ S := fun x m => by
    by_cases z : x ∈ L
    · exact sub _ (nxt_mem z)
    · rw [nxt_out z]; exact m
  refine ⟨fun x m => ?_, fun a ma b mb e => nxt_inj nd (h.inj _ (inS a ma) _ (inS b mb) e)⟩
  by_cases z : x ∈ L
  · exact ok x z
  · show f (nxt L x) ∈ R x
    rw [nxt_out z]; exact h.mem x m
end
end Wk

set_option Elab.async false
set_option linter.all false
set_option maxRecDepth 100000
namespace Wk
noncomputable section
open PySem PySem.Spec PySem.Calls L2 PyProof.Rows Qy
end
end Wk

set_option Elab.async false
set_option linter.all false
set_option maxRecDepth 10000
set_option maxHeartbeats 0
/-! S20: seek, paired, short_lot -/
namespace Wk
open PySem PySem.Spec Qy
open L2 (Key)
def tt : PySem.Str → D := fun _ => .bl true
/-- what is held: taker t by giver h t, for the takers O -/
structure Held (S U : List PySem.Str) (R : PySem.Str → List PySem.Str) (O : List PySem.Str) (h : PySem.Str → PySem.Str) : Prop where
  nd : O.Nodup
  sub : ∀ t ∈ O, t ∈ U
  gv : ∀ t ∈ O, h t ∈ S
  ok : ∀ t ∈ O, t ∈ R (h t)
  inj : ∀ t ∈ O, ∀ u ∈ O, h t = h u → t = u
/-- after success: g has a taker more, that was not seen before -/
structure Won (S U : List PySem.Str) (R : PySem.Str → List PySem.Str) (g : PySem.Str) (V O : List PySem.Str) (h : PySem.Str → PySem.Str) (O' : List PySem.Str) (h' : PySem.Str → PySem.Str) : Prop where
  nd : O'.Nodup
  sub : ∀ t ∈ O', t ∈ U
  gv : ∀ t ∈ O', h' t ∈ S
  ok : ∀ t ∈ O', t ∈ R (h' t)
  two : ∀ t ∈ O', ∀ u ∈ O', h' t = h' u → t ≠ u → h' t = g ∧ ((t ∈ O ∧ h t = g) ∨ (u ∈ O ∧ h u = g))
  got : ∃ t ∈ O', h' t = g ∧ t ∉ V
  old : ∀ t ∈ V, (t ∈ O' ↔ t ∈ O) ∧ (t ∈ O → h' t = h t)
  kp : ∀ t ∈ O, ∃ u ∈ O', h' u = h t
  new : ∀ u ∈ O', h' u = g ∨ ∃ t ∈ O, h t = h' u
/-- after failure -/
structure Lost (R : PySem.Str → List PySem.Str) (V O : List PySem.Str) (h : PySem.Str → PySem.Str) (V' : List PySem.Str) : Prop where
  nd : V'.Nodup
  up : ∀ t ∈ V, t ∈ V'
  held : ∀ t ∈ V', t ∈ V ∨ (t ∈ O ∧ ∀ u ∈ R (h t), u ∈ V')
theorem Lost.refl {R : PySem.Str → List PySem.Str} {V O : List PySem.Str} {h : PySem.Str → PySem.Str} (nd : V.Nodup) : Lost R V O h V := ⟨nd, fun _ m => m, fun _ m => .inl m⟩
theorem Lost.then {R : PySem.Str → List PySem.Str} {V O V1 V2 : List PySem.Str} {h : PySem.Str → PySem.Str} {t : PySem.Str} (a : Lost R V O h V1) (mt : t ∈ O) (b : Lost R (V1 ++ [t]) O h V2) (all : ∀ u ∈ R (h t), u ∈ V2) : Lost R V O h V2 := ⟨b.nd, fun x m => b.up x (List.mem_append_left _ (a.up x m)), fun x m => by
  rcases b.held x m with z | z
  · rcases List.mem_append.1 z with z | z
    · rcases a.held x z with w | ⟨w, q⟩
      · exact .inl w
      · exact .inr ⟨w, fun u mu => b.up u (List.mem_append_left _ (q u mu))⟩
    · rw [List.mem_singleton.1 z]; exact .inr ⟨mt, all⟩
  · exact .inr z⟩
section
variable {S U : List PySem.Str} {R : PySem.Str → List PySem.Str} {g t : PySem.Str} {V V1 O O' : List PySem.Str} {h h' : PySem.Str → PySem.Str}
/-- a free taker is taken -/
theorem Won.free (H : Held S U R O h) (pre : ∀ t ∈ O, h t = g → t ∈ V) (gS : g ∈ S) (tS : t ∈ U) (mt : t ∈ R g) (nO : t ∉ O) (nV : t ∉ V) : Won S U R g V O h (O ++ [t]) (upf h t g) := by
  have ne : ∀ {x}, x ∈ O → x ≠ t := fun m e => nO (by rw [← e]; exact m)
  have cs : ∀ {x}, x ∈ O ++ [t] → x ∈ O ∨ x = t := fun m => by simpa using m
  refine ⟨?_, fun x m => ?_, fun x m => ?_, fun x m => ?_, fun x mx y my e n => ?_, ⟨t, by simp, by simp, nV⟩, fun x m => ?_, fun x m => ⟨x, by simp [m], by rw [upf_ne (ne m)]⟩, fun x m => ?_⟩
  · rw [List.nodup_append]
    exact ⟨H.nd, by simp, fun x mx y my e => by rw [List.mem_singleton] at my; exact ne mx (by rw [e, my])⟩
  · rcases cs m with z | rfl
    · exact H.sub x z
    · exact tS
  · rcases cs m with z | rfl
    · rw [upf_ne (ne z)]; exact H.gv x z
    · rw [upf_same]; exact gS
  · rcases cs m with z | rfl
    · rw [upf_ne (ne z)]; exact H.ok x z
    · rw [upf_same]; exact mt
  · rcases cs mx with zx | rfl <;> rcases cs my with zy | rfl
    · rw [upf_ne (ne zx), upf_ne (ne zy)] at e
      exact absurd (H.inj x zx y zy e) n
    · rw [upf_ne (ne zx), upf_same] at e
      rw [upf_ne (ne zx)]
      exact ⟨e, .inl ⟨zx, e⟩⟩
    · rw [upf_ne (ne zy), upf_same] at e
      rw [upf_same]
      exact ⟨rfl, .inr ⟨zy, e.symm⟩⟩
    · exact absurd rfl n
  · have nx : x ≠ t := fun e => nV (by rw [← e]; exact m)
    exact ⟨by simp [nx], fun _ => upf_ne nx⟩
  · rcases cs m with z | rfl
    · rw [upf_ne (ne z)]; exact .inr ⟨x, z, rfl⟩
    · rw [upf_same]; exact .inl rfl
/-- nobody held the giver's taker: what is held afterwards -/
theorem Won.held (H : Held S U R O h) (W : Won S U R g [] O h O' h') (n : ∀ t ∈ O, h t ≠ g) : Held S U R O' h' ∧ (∀ x, (∃ u ∈ O', h' u = x) ↔ x = g ∨ ∃ t ∈ O, h t = x) := by
  refine ⟨⟨W.nd, W.sub, W.gv, W.ok, fun t mt u mu e => ?_⟩, fun x => ⟨?_, ?_⟩⟩
  · by_cases c : t = u
    · exact c
    · exfalso
      rcases (W.two t mt u mu e c).2 with ⟨m, z⟩ | ⟨m, z⟩
      · exact n t m z
      · exact n u m z
  · rintro ⟨u, mu, rfl⟩
    rcases W.new u mu with z | ⟨t, m, z⟩
    · exact .inl z
    · exact .inr ⟨t, m, z⟩
  · rintro (rfl | ⟨t, m, rfl⟩)
    · obtain ⟨u, mu, e, _⟩ := W.got
      exact ⟨u, mu, e⟩
    · exact W.kp t m
end
/-- rows of people -/
structure RowOk (S : List PySem.Str) (R : PySem.Str → List PySem.Str) : Prop where
  sub : ∀ a ∈ S, ∀ t ∈ R a, t ∈ S
  nd : ∀ a ∈ S, (R a).Nodup
/-- .. with takers out of U -/
structure RowU (S U : List PySem.Str) (R : PySem.Str → List PySem.Str) : Prop where
  sub : ∀ a ∈ S, ∀ t ∈ R a, t ∈ U
  nd : ∀ a ∈ S, (R a).Nodup
theorem RowOk.u {S : List PySem.Str} {R : PySem.Str → List PySem.Str} (h : RowOk S R) : RowU S S R := ⟨h.sub, h.nd⟩
end Wk

set_option Elab.async false
set_option linter.all false
set_option maxRecDepth 10000
set_option maxHeartbeats 0
/-! S21: paired; the lot of givers with too few takers; takers of a lot; fixed rows -/
namespace Wk
open PySem PySem.Spec Qy
open L2 (Key)
/-- who takes t -/
def inv (O : List PySem.Str) (h : PySem.Str → PySem.Str) (x : PySem.Str) : PySem.Str := (O.find? fun t => decide (h t = x)).getD ""
theorem inv_at {O : List PySem.Str} {h : PySem.Str → PySem.Str} (inj : ∀ t ∈ O, ∀ u ∈ O, h t = h u → t = u) {t : PySem.Str} (m : t ∈ O) : inv O h (h t) = t := by
  unfold inv
  cases e : O.find? fun u => decide (h u = h t) with
  | none =>
    rw [List.find?_eq_none] at e
    exact absurd (by simp) (e t m)
  | some u =>
    have h1 := List.find?_some e
    have h2 := List.mem_of_find?_eq_some e
    exact inj u h2 t m (of_decide_eq_true h1)
section
variable {S U : List PySem.Str} {R : PySem.Str → List PySem.Str}
/-- the first so many people have a taker each -/
structure Part (S U : List PySem.Str) (R : PySem.Str → List PySem.Str) (i : Nat) (O : List PySem.Str) (h : PySem.Str → PySem.Str) : Prop where
  hd : Held S U R O h
  gs : ∀ x, (∃ u ∈ O, h u = x) ↔ x ∈ S.take i
theorem take_next {i : Nat} (hi : i < S.length) : S.take (i + 1) = S.take i ++ [S[i]] := by rw [List.take_succ, List.getElem?_eq_getElem hi]; rfl
theorem not_yet (nd : S.Nodup) {i : Nat} (hi : i < S.length) : S[i] ∉ S.take i := fun z => by
  obtain ⟨j, hj, e⟩ := List.mem_take_iff_getElem.1 z
  have := nd_inj nd e
  omega
theorem Part.next (nd : S.Nodup) {i : Nat} (hi : i < S.length) {O O' : List PySem.Str} {h h' : PySem.Str → PySem.Str} (p : Part S U R i O h) (W : Won S U R S[i] [] O h O' h') : Part S U R (i + 1) O' h' := by
  have n : ∀ t ∈ O, h t ≠ S[i] := fun t m e => not_yet nd hi ((p.gs _).1 ⟨t, m, e⟩)
  obtain ⟨h1, h2⟩ := Won.held p.hd W n
  refine ⟨h1, fun x => ?_⟩
  rw [h2, take_next hi, List.mem_append, List.mem_singleton, ← p.gs]
  exact Or.comm
/-- the lot that shows that there is no full pairing -/
structure Lot (S : List PySem.Str) (R : PySem.Str → List PySem.Str) (G T : List PySem.Str) : Prop where
  ndG : G.Nodup
  subG : ∀ g ∈ G, g ∈ S
  ndT : T.Nodup
  all : ∀ g ∈ G, ∀ t ∈ R g, t ∈ T
  some : ∀ t ∈ T, ∃ g ∈ G, t ∈ R g
  lt : T.length < G.length
theorem Lot.no {G T : List PySem.Str} (h : Lot S R G T) (f : PySem.Str → PySem.Str) : ¬ PM S R f := hall h.ndG h.subG h.all h.lt
theorem Part.pm {O : List PySem.Str} {h : PySem.Str → PySem.Str} (p : Part S U R S.length O h) : PM S R (inv O h) := by
  have gs := p.gs
  rw [List.take_length] at gs
  refine ⟨fun a m => ?_, fun a ma b mb e => ?_⟩
  · obtain ⟨t, mt, rfl⟩ := (gs a).2 m
    rw [inv_at p.hd.inj mt]; exact p.hd.ok t mt
  · obtain ⟨t, mt, rfl⟩ := (gs a).2 ma
    obtain ⟨u, mu, rfl⟩ := (gs b).2 mb
    rw [inv_at p.hd.inj mt, inv_at p.hd.inj mu] at e
    rw [e]
end
end Wk

set_option Elab.async false
set_option linter.all false
set_option maxRecDepth 10000
set_option maxHeartbeats 0
/-! M13: a loop by its word and its measure -/
namespace Qy
open PySem PySem.Spec
theorem good_of {n : Nat} {g : M Fl} (z : ∀ ns : List Int, Ev (g (rho0 [.sh] [.scr ns] n)) (fun fl _ => fl = .rt (.bl true)) (fun _ _ => False)) : ∀ ns : List Int, ns.length ≤ 63 → Good n g ns := by
  intro ns _
  have z := z ns
  unfold Good
  cases h : g (rho0 [.sh] [.scr ns] n) with
  | ok fl ρ => rw [h, y_ok] at z; subst z; exact ⟨_, rfl⟩
  | er e ρ => rw [h, y_er] at z; exact z.elim
  | st => rw [h, y_st] at z; exact z.elim
end Qy

set_option Elab.async false
set_option linter.all false
set_option maxRecDepth 10000
set_option maxHeartbeats 0
/-! M14: comprehensions of two clauses -/
namespace Qy
open PySem PySem.Spec
end Qy

set_option Elab.async false
set_option linter.all false
set_option maxRecDepth 10000
set_option maxHeartbeats 0
/-! S22: who is reached; the table -/
namespace Wk
open PySem PySem.Spec Qy
open L2 (Key)
section
variable {S : List PySem.Str} {R : PySem.Str → List PySem.Str} {o : PySem.Str → PySem.Str}
/-- found so far: F, of whom W wait -/
structure Fnd (S : List PySem.Str) (R : PySem.Str → List PySem.Str) (o : PySem.Str → PySem.Str) (x : PySem.Str) (F W : List PySem.Str) : Prop where
  nd : F.Nodup
  sub : ∀ y ∈ F, y ∈ S
  wait : ∀ y ∈ W, y ∈ F
  start : x ∈ F
  rch : ∀ y ∈ F, Rch R o y x
  done : ∀ y ∈ F, y ∈ W ∨ ∀ t ∈ R y, o t ∈ F
theorem Fnd.all {x : PySem.Str} {F : List PySem.Str} (h : Fnd S R o x F []) {y : PySem.Str} (r : Rch R o y x) : y ∈ F := by
  have : ∀ {z}, Rch R o y z → z ∈ F → y ∈ F := by
    intro z r
    induction r with
    | refl => exact id
    | @head z t mt _ ih => exact fun m => ih ((h.done z m).resolve_left (by simp) t mt)
  exact this r h.start
end
end Wk

set_option Elab.async false
set_option linter.all false
set_option maxRecDepth 10000
set_option maxHeartbeats 0
/-! S23: the table of the possible pairs -/
namespace Wk
open PySem PySem.Spec Qy
open L2 (Key)
section
variable {S : List PySem.Str} {R : PySem.Str → List PySem.Str}
open Classical in
/-- the takers of a in full pairings -/
noncomputable def tabR (S : List PySem.Str) (R : PySem.Str → List PySem.Str) (a : PySem.Str) : List PySem.Str := (R a).filter fun b => decide (∃ f, PM S R f ∧ f a = b)
theorem tab_mem {a b : PySem.Str} : b ∈ tabR S R a ↔ b ∈ R a ∧ ∃ f, PM S R f ∧ f a = b := by
  unfold tabR; rw [List.mem_filter]; simp
theorem tab_pm {a b : PySem.Str} (ha : a ∈ S) : b ∈ tabR S R a ↔ ∃ f, PM S R f ∧ f a = b := by
  rw [tab_mem]
  exact ⟨fun h => h.2, fun h => ⟨by obtain ⟨f, hf, rfl⟩ := h; exact hf.mem a ha, h⟩⟩
/-- only a to b, nobody else to b -/
def fixR (R : PySem.Str → List PySem.Str) (a b : PySem.Str) : PySem.Str → List PySem.Str := fun x => if x = a then (R x).filter fun t => decide (t = b) else (R x).filter fun t => !decide (t = b)
end
end Wk

set_option Elab.async false
set_option linter.all false
set_option maxRecDepth 10000
set_option maxHeartbeats 0
/-! S24: tables, drawings and what is known -/
namespace Wk
open PySem PySem.Spec Qy
open L2 (Key)
section
variable {S : List PySem.Str} {R R' : PySem.Str → List PySem.Str}
theorem PM.congr {f g : PySem.Str → PySem.Str} (h : PM S R f) (e : ∀ a ∈ S, f a = g a) : PM S R g := ⟨fun a m => by rw [← e a m]; exact h.mem a m, fun a ma b mb z => h.inj a ma b mb (by rw [e a ma, e b mb]; exact z)⟩
/-- rows cut out of one list -/
def Cut (F : List PySem.Str) (S : List PySem.Str) (R : PySem.Str → List PySem.Str) : Prop := ∃ p : PySem.Str → PySem.Str → Bool, ∀ a ∈ S, R a = F.filter (p a)
end
/-! ### equal data -/
end Wk

set_option Elab.async false
set_option linter.all false
set_option maxRecDepth 10000
set_option maxHeartbeats 0
/-! S25: books asked; leaks left out -/
namespace Wk
open PySem PySem.Spec Qy
open L2 (Key)
end Wk

set_option Elab.async false
set_option linter.all false
set_option maxRecDepth 100000
namespace Wk
noncomputable section
open PySem PySem.Spec PySem.Calls L2 PyProof.Rows Qy
end
end Wk

set_option Elab.async false
set_option linter.all false
set_option maxRecDepth 100000
set_option maxHeartbeats 0
/-! S26: check_names, takers of a tuple, lot_fault, lot, free, contains -/
namespace Wk
open PySem PySem.Spec Qy
open L2 (Key)
section
variable {α : Type} {Q : D → Rho → Prop} {E : D → Rho → Prop} {ρ : Rho}
@[simp] theorem y_altC (g g' : D → Option D) (f : M D) : Ev (alt (gC1 g f) (gC1 g' f) ρ) Q E = Ev (f ρ) (fun x ρ1 => Ev (ofO ((g x).or (g' x)) ρ1) Q E) E := by
  unfold alt gC1 bnd
  cases h1 : f ρ with
  | ok x ρ1 =>
    simp only [Qy.R.bind, y_ok]
    cases h3 : g x with
    | some z => simp only [Option.some_or]; rfl
    | none => simp only [Option.none_or]; rfl
  | er _ _ => simp only [Qy.R.bind, y_er]
  | st => simp only [Qy.R.bind, y_st]
end
theorem tupS_inj {A B : List PySem.Str} (h : tupS A = tupS B) : A = B := by
  injection h with h
  exact (List.map_inj_right (fun a b e => by injection e)).1 h
variable {S : List PySem.Str} {R : PySem.Str → List PySem.Str}
/-- K holds the takers of the lot T, each once -/
structure TakS (R : PySem.Str → List PySem.Str) (T K : List PySem.Str) : Prop where
  nd : K.Nodup
  iff : ∀ t, t ∈ K ↔ ∃ g ∈ T, t ∈ R g
theorem TakS.perm {T K K' : List PySem.Str} (h : TakS R T K) (k : TakS R T K') : K.Perm K' := nd_perm h.nd k.nd fun x => (h.iff x).trans (k.iff x).symm
/-- what keeps a lot from being tight -/
def faultOf (T K : List PySem.Str) (a b : PySem.Str) : D := if K.length = T.length then (if b ∈ K ∧ a ∉ T then .non else .str "pair") else .str "many"
theorem fault_perm {T K K' : List PySem.Str} (h : K.Perm K') (a b : PySem.Str) : faultOf T K a b = faultOf T K' a b := by
  unfold faultOf
  simp only [h.length_eq, h.mem_iff]
/-- the answer to a lot -/
def LotR (S : List PySem.Str) (R : PySem.Str → List PySem.Str) (a b : PySem.Str) (v r : D) : Prop :=
  (lotB S v = false ∧ r = .str "form") ∨ ∃ T, v = tupS T ∧ LotOk S T ∧ ((sortS T ≠ T ∧ r = .str "form") ∨ (sortS T = T ∧ ∃ K, TakS R T K ∧ r = faultOf T K a b))
theorem LotR.uniq {a b : PySem.Str} {v r s : D} (h : LotR S R a b v r) (k : LotR S R a b v s) : r = s := by
  have no : ∀ {T}, v = tupS T → LotOk S T → lotB S v = false → False := fun e o f => by rw [lotB_iff.2 ⟨_, e, o⟩] at f; cases f
  rcases h with ⟨h1, rfl⟩ | ⟨T, rfl, o, h⟩ <;> rcases k with ⟨k1, rfl⟩ | ⟨T', e, o', k⟩
  · rfl
  · exact (no e o' h1).elim
  · exact (no rfl o k1).elim
  · obtain rfl := tupS_inj e
    rcases h with ⟨h1, rfl⟩ | ⟨h1, K, hK, rfl⟩ <;> rcases k with ⟨k1, rfl⟩ | ⟨k1, K', hK', rfl⟩
    · rfl
    · exact (h1 k1).elim
    · exact (k1 h1).elim
    · exact fault_perm (hK.perm hK') a b
theorem LotR.pl {a b : PySem.Str} {v r : D} (h : LotR S R a b v r) : r = .non ∨ r = .str "form" ∨ r = .str "many" ∨ r = .str "pair" := by
  rcases h with ⟨_, rfl⟩ | ⟨T, _, _, h⟩
  · simp
  · rcases h with ⟨_, rfl⟩ | ⟨_, K, _, rfl⟩
    · simp
    · unfold faultOf; split
      · split <;> simp
      · simp
end Wk

set_option Elab.async false
set_option linter.all false
set_option maxRecDepth 100000
set_option maxHeartbeats 0
/-! S27: free, contains, a book of a list that is kept -/
namespace Wk
open PySem PySem.Spec Qy
open L2 (Key)
theorem sorted_strs (S : List PySem.Str) : (sortS S).Pairwise (fun a b => leS a b = true) := List.pairwise_mergeSort leS_tr leS_tot S
end Wk

set_option Elab.async false
set_option linter.all false
set_option maxRecDepth 100000
set_option maxHeartbeats 0
/-! S28: drawing, table, with_pair, sure, lot of a book -/
namespace Wk
open PySem PySem.Spec Qy
open L2 (Key)
variable {S : List PySem.Str} {C : List Pr} {L : List Leak}
theorem fix_pm {R : PySem.Str → List PySem.Str} {a b : PySem.Str} (ha : a ∈ S) {f : PySem.Str → PySem.Str} : PM S (fixR R a b) f ↔ PM S R f ∧ f a = b := by
  constructor
  · intro h
    have e : f a = b := by
      have := h.mem a ha
      simp only [fixR, if_true] at this
      simpa using (List.mem_filter.1 this).2
    refine ⟨⟨fun x m => ?_, h.inj⟩, e⟩
    have := h.mem x m
    unfold fixR at this
    split at this
    · exact (List.mem_filter.1 this).1
    · exact (List.mem_filter.1 this).1
  · rintro ⟨h, e⟩
    refine ⟨fun x m => ?_, h.inj⟩
    unfold fixR
    split
    · next c => subst c; exact List.mem_filter.2 ⟨h.mem _ m, by simp [e]⟩
    · next c => exact List.mem_filter.2 ⟨h.mem _ m, by simpa [← e] using fun z => c (h.inj x m a ha z)⟩
theorem fix_rk {R : PySem.Str → List PySem.Str} (rk : RowOk S R) (a b : PySem.Str) : RowOk S (fixR R a b) := by
  refine ⟨fun x m t mt => ?_, fun x m => ?_⟩
  · unfold fixR at mt
    split at mt <;> exact rk.sub x m t (List.mem_filter.1 mt).1
  · unfold fixR
    split <;> exact (rk.nd x m).filter _
end Wk

set_option Elab.async false
set_option linter.all false
set_option maxRecDepth 100000
set_option maxHeartbeats 0
/-! S29: literals; drawings as dicts -/
namespace Wk
open PySem PySem.Spec Qy
open L2 (Key)
theorem shl {s : PySem.Str} (h : (decide (s.length ≤ 16777216) && PyData.strOk s) = true) : Sh 16777216 s := by
  simp only [Bool.and_eq_true, decide_eq_true_eq] at h
  exact h
theorem plt2 {x y : D} {m : Nat} (h : Pl m x) (k : Pl m y) : Pl (m + 1) (.tup [x, y]) := ⟨by simp, by simp; exact ⟨h, k⟩⟩
theorem ix_mod {S : List PySem.Str} (h : 0 < S.length) (x : Int) : ∃ a ∈ S, ixD (.lst (S.map D.str)) (.int (x % (S.length : Int))) = some (.str a) := by
  have h1 := Int.emod_nonneg x (show (S.length : Int) ≠ 0 by omega)
  have h2 := Int.emod_lt_of_pos x (show (0 : Int) < (S.length : Int) by omega)
  have lt : (x % (S.length : Int)).toNat < S.length := by omega
  exact ⟨S[(x % (S.length : Int)).toNat], List.getElem_mem lt, ix_str' _ (x % (S.length : Int)).toNat (by omega) lt⟩
end Wk

set_option Elab.async false
set_option linter.all false
set_option maxRecDepth 100000
namespace Wk
noncomputable section
open PySem PySem.Spec PySem.Calls L2 PyProof.Rows Qy
end
end Wk

set_option Elab.async false
set_option linter.all false
set_option maxRecDepth 100000
set_option maxHeartbeats 0
/-! S30: the book that tells a table; == of books; same -/
namespace Wk
open PySem PySem.Spec Qy
open L2 (Key)
variable {S : List PySem.Str} {C : List Pr} {L : List Leak} {R T : PySem.Str → List PySem.Str}
end Wk

set_option Elab.async false
set_option linter.all false
set_option maxRecDepth 100000
set_option maxHeartbeats 0
/-! S31: the least drawing -/
namespace Wk
open PySem PySem.Spec Qy
open L2 (Key)
/-- a new thing, or None -/
def GvN (ks : List Kd) (n : Nat) (g : M Fl) (ds : List D) (N : Prop) (P X : D → Prop) : Prop := Ev (g (rho0 ks ds n)) (fun fl _ => (fl = .rt .non ∧ N) ∨ ∃ d, fl = .rf d ∧ P d) (fun e _ => X e)
theorem GvN.gv {ks : List Kd} {n : Nat} {g : M Fl} {ds : List D} {N : Prop} {P X : D → Prop} (h : GvN ks n g ds N P X) : Gv ks n g ds (fun r => (r = .non ∧ N) ∨ P r) X :=
  Ev.mono h (fun fl _ z => by
    rcases z with ⟨rfl, p⟩ | ⟨d, rfl, p⟩
    · exact Or.inl ⟨rfl, p⟩
    · exact Or.inr p) (fun _ _ z => z)
section
variable {S : List PySem.Str} {C : List Pr} {L : List Leak} {R R' : PySem.Str → List PySem.Str}
/-- no drawing comes before this one -/
structure Least (S : List PySem.Str) (R : PySem.Str → List PySem.Str) (f : PySem.Str → PySem.Str) : Prop where
  pm : PM S R f
  le : ∀ g, PM S R g → ∀ k (hk : k < S.length), (∀ j (hj : j < k), g S[j] = f S[j]) → leS (f S[k]) (g S[k]) = true
/-- the first i people are given their takers -/
structure Fst (S : List PySem.Str) (R : PySem.Str → List PySem.Str) (i : Nat) (R' : PySem.Str → List PySem.Str) : Prop where
  rk : RowOk S R'
  cut : Cut (sortS S) S R'
  ex : ∃ f, PM S R' f
  iff : ∀ f g, PM S R' f → (PM S R' g ↔ PM S R g ∧ ∀ j (hj : j < S.length), j < i → g S[j] = f S[j])
  le : ∀ f g, PM S R' f → PM S R g → ∀ k (hk : k < S.length), k < i → (∀ j (hj : j < k), g S[j] = f S[j]) → leS (f S[k]) (g S[k]) = true
  one : ∀ f, PM S R' f → ∀ j (hj : j < S.length), j < i → ∀ t ∈ R' S[j], t = f S[j]
theorem cut_fix {a b : PySem.Str} {F : List PySem.Str} (h : Cut F S R) : Cut F S (fixR R a b) := by
  obtain ⟨p, hp⟩ := h
  refine ⟨fun x t => p x t && (if x = a then decide (t = b) else !decide (t = b)), fun x m => ?_⟩
  unfold fixR
  rw [hp x m]
  split
  · next c => rw [List.filter_filter]; congr 1; funext t; rw [Bool.and_comm]; simp [c]
  · next c => rw [List.filter_filter]; congr 1; funext t; rw [Bool.and_comm]; simp [c]
theorem tab_sorted (h : Cut (sortS S) S R) {a : PySem.Str} (ha : a ∈ S) : (tabR S R a).Pairwise (fun x y => leS x y = true) := by
  obtain ⟨p, hp⟩ := h
  unfold tabR
  rw [hp a ha]
  exact ((sorted_strs S).filter _).filter _
theorem head_le {T : List PySem.Str} (h : T.Pairwise (fun x y => leS x y = true)) {b : PySem.Str} {U : List PySem.Str} (e : T = b :: U) {t : PySem.Str} (m : t ∈ T) : leS b t = true := by
  subst e
  rcases List.mem_cons.1 m with rfl | m
  · have := leS_tot t t
    simpa using this
  · exact (List.pairwise_cons.1 h).1 t m
theorem Fst.step {i : Nat} (h : Fst S R i R') (hi : i < S.length) {b : PySem.Str} {U : List PySem.Str} (e : tabR S R' S[i] = b :: U) : Fst S R (i + 1) (fixR R' S[i] b) := by
  have ha := List.getElem_mem hi
  have mb : b ∈ tabR S R' S[i] := by rw [e]; exact List.mem_cons_self
  obtain ⟨f0, p0, e0⟩ := (tab_pm ha).1 mb
  refine ⟨fix_rk h.rk _ _, cut_fix h.cut, ⟨f0, (fix_pm ha).2 ⟨p0, e0⟩⟩, fun f g pf => ?_, fun f g pf pg k hk lk q => ?_, fun f pf j hj lj t mt => ?_⟩
  · obtain ⟨pf, ef⟩ := (fix_pm ha).1 pf
    rw [fix_pm ha, h.iff f g pf]
    constructor
    · rintro ⟨⟨pg, q⟩, eg⟩
      refine ⟨pg, fun j hj lj => ?_⟩
      rcases Nat.lt_or_ge j i with c | c
      · exact q j hj c
      · obtain rfl : j = i := by omega
        rw [eg, ef]
    · rintro ⟨pg, q⟩
      exact ⟨⟨pg, fun j hj lj => q j hj (by omega)⟩, by rw [q i hi (by omega), ef]⟩
  · obtain ⟨pf1, ef⟩ := (fix_pm ha).1 pf
    rcases Nat.lt_or_ge k i with c | c
    · exact h.le f g pf1 pg k hk c q
    · obtain rfl : k = i := by omega
      have pg' := (h.iff f g pf1).2 ⟨pg, fun j hj lj => q j lj⟩
      rw [ef]
      exact head_le (tab_sorted h.cut ha) e ((tab_pm ha).2 ⟨g, pg', rfl⟩)
  · obtain ⟨pf, ef⟩ := (fix_pm ha).1 pf
    unfold fixR at mt
    split at mt
    · next c =>
      have := (List.mem_filter.1 mt).2
      rw [c, ef]; simpa using this
    · next c =>
      refine h.one f pf j hj ?_ t (List.mem_filter.1 mt).1
      rcases Nat.lt_or_ge j i with d | d
      · exact d
      · obtain rfl : j = i := by omega
        exact (c rfl).elim
theorem Fst.zero (rk : RowOk S R) (cut : Cut (sortS S) S R) (ex : ∃ f, PM S R f) : Fst S R 0 R := ⟨rk, cut, ex, fun f g _ => ⟨fun h => ⟨h, fun _ _ z => by omega⟩, fun h => h.1⟩, fun _ _ _ _ _ _ z => by omega, fun _ _ _ _ z => by omega⟩
theorem nd_one {T : List PySem.Str} {x : PySem.Str} (nd : T.Nodup) (m : x ∈ T) (h : ∀ t ∈ T, t = x) : T = [x] := by
  cases T with
  | nil => cases m
  | cons a U =>
    obtain rfl := h a List.mem_cons_self
    cases U with
    | nil => rfl
    | cons b U =>
      have := h b (by simp)
      subst this
      simp at nd
theorem Fst.done (h : Fst S R S.length R') : ∃ f, Least S R f ∧ ∀ a ∈ S, R' a = [f a] := by
  obtain ⟨f, pf⟩ := h.ex
  refine ⟨f, ⟨((h.iff f f pf).1 pf).1, fun g pg k hk q => h.le f g pf pg k hk hk q⟩, fun a m => ?_⟩
  obtain ⟨j, hj, rfl⟩ := List.mem_iff_getElem.1 m
  exact nd_one (h.rk.nd _ m) (pf.mem _ m) (h.one f pf j hj hj)
end
end Wk

set_option Elab.async false
set_option linter.all false
set_option maxRecDepth 100000
set_option maxHeartbeats 0
/-! S32: == of books, same, the plain book -/
namespace Wk
open PySem PySem.Spec Qy
open L2 (Key)
section
variable {S : List PySem.Str} {C : List Pr} {L L' : List Leak} {R R' T : PySem.Str → List PySem.Str}
end
end Wk

set_option Elab.async false
set_option linter.all false
set_option maxRecDepth 100000
set_option maxHeartbeats 0
/-! S33: equal dicts -/
namespace Wk
open PySem PySem.Spec Qy
open L2 (Key)
end Wk

set_option Elab.async false
set_option linter.all false
set_option maxRecDepth 100000
namespace Wk
noncomputable section
open PySem PySem.Spec PySem.Calls L2 PyProof.Rows Qy
end
end Wk

set_option Elab.async false
set_option linter.all false
set_option maxRecDepth 100000
set_option maxHeartbeats 0
/-! S34: book + leak, tells -/
namespace Wk
open PySem PySem.Spec Qy
open L2 (Key)
section
variable {Q : D → Rho → Prop} {E : D → Rho → Prop} {ρ : Rho}
end
section
variable {S : List PySem.Str} {C : List Pr} {L : List Leak} {R T : PySem.Str → List PySem.Str}
end
end Wk

set_option Elab.async false
set_option linter.all false
set_option maxRecDepth 100000
set_option maxHeartbeats 0
/-! S37: == of lists of leaks, of books -/
namespace Wk
open PySem PySem.Spec Qy
open L2 (Key)
noncomputable instance : DecidableEq Leak := fun _ _ => Classical.propDecidable _
section
variable {S : List PySem.Str} {C B : List Pr} {L M : List Leak}
end
end Wk

set_option maxRecDepth 100000
set_option maxHeartbeats 0
namespace Wk
noncomputable section
open PySem PySem.Spec PySem.Calls L2 PyProof.Rows Qy
def gxxlaw_groups : M Fl := 
  gSeq (gSet 3 (gIx (gLst (gArg (gBin modD (gC1 intV (gIx (gVar 2) (ret (.int 1)))) (ret (.int 7))) (gArg (gBin modD (gC1 intV (gIx (gVar 2) (ret (.int 1)))) (ret (.int 7))) (gArg (gBin modD (gC1 intV (gIx (gVar 2) (ret (.int 1)))) (ret (.int 7))) (gArg (gBin addD (ret (.int 40)) (gBin modD (gC1 intV (gIx (gVar 2) (ret (.int 1)))) (ret (.int 2)))) (gNil)))))) (gBin modD (gC1 intV (gIx (gVar 2) (ret (.int 0)))) (ret (.int 4))))) (
  gSeq (gOwn 4 (gLst (gNil))) (
  gSeq (gFor (gI1 (gVar 3) rng1) (gN 5) (
  gSeq (gSet 6 (gCall [.sh, .sh] 4 gxxlaw_draws (gArg (gCall [.sh, .sh] 0 gxxlaw_cell (gArg (gVar 0) (gArg (gBin addD (ret (.int 3)) (gVar 5)) (gNil)))) (gArg (gBin addD (gC1 lenV (gVar 1)) (ret (.int 1))) (gNil))))) (
  gMutL 4 appD (gListOf (gCall [.sh, .sh, .sh] 3 gxxlaw_lot (gArg (alt (gSl slD (gVar 6) (gPart (ret (.int 1))) (ret none)) (gSl slL (gVar 6) (gPart (ret (.int 1))) (ret none))) (gArg (gVar 1) (gArg (gBin addD (ret (.int 1)) (gBin modD (gC1 intV (gIx (gVar 6) (ret (.int 0)))) (ret (.int 5)))) (gNil))))))))) (
  gSeq (gIf (gAndT (gCmpT gtD (gVar 3) (ret (.int 0))) (gCmpT eqD (gBin modD (gC1 intV (gIx (gVar 2) (ret (.int 2)))) (ret (.int 4))) (ret (.int 0)))) (
  gSeq (gSet 7 (gIx (gVar 1) (gBin modD (gC1 intV (gIx (gVar 2) (ret (.int 3)))) (gC1 lenV (gVar 1))))) (
  gSeq (gSet 8 (gLst (gArg (gLst (gNil)) (gArg (gTup (gArg (gVar 7) (gNil))) (gArg (gLst (gArg (gVar 7) (gArg (gIx (gVar 1) (ret (.int 0))) (gArg (gVar 7) (gNil))))) (gArg (gLst (gArg (gVar 7) (gArg (ret (.str "notthere")) (gNil)))) (gArg (ret .non) (gArg (gVar 7) (gArg (gLst (gArg (ret .non) (gNil))) (gArg (gLst (gArg (gLst (gArg (gVar 7) (gNil))) (gNil))) (gArg (ret (.dk [] [])) (gArg (gLst (gArg (gIx (gVar 1) (ret (.int 0))) (gArg (ret (.int 7)) (gNil)))) (gNil))))))))))))) (
  gSetI 4 (gBin modD (gC1 intV (gIx (gVar 2) (ret (.int 4)))) (gVar 3)) (gIx (gVar 8) (gBin modD (gC1 intV (gIx (gVar 2) (ret (.int 5)))) (ret (.int 10))))))) (
  gSkip)) (
  gRetO 4))))
def gxxlaw_due : M Fl := 
  gSeq (gIf (gOrT (gNotT (gTru (gC1 (isiV "tuple") (gVar 0)))) (gOrT (gCmpT ltD (gC1 lenV (gVar 0)) (ret (.int 2))) (gCmpT gtD (gC1 lenV (gVar 0)) (ret (.int 24))))) (
  gRet (gTup (gArg (ret (.str "people")) (gArg (bnd (ret (.int 1)) fun x => ofO (negD x)) (gNil))))) (
  gSkip)) (
  gSeq (gFor (gI1 (gC1 lenV (gVar 0)) rng1) (gN 2) (
  gIf (gOrT (gNotT (gTru (gC1 (isiV "str") (gIx (gVar 0) (gVar 2))))) (gOrT (gCmpT gtD (gC1 lenV (gIx (gVar 0) (gVar 2))) (ret (.int 8))) (gCmpT inD (gIx (gVar 0) (gVar 2)) (alt (gSl slD (gVar 0) (ret none) (gPart (gVar 2))) (gSl slL (gVar 0) (ret none) (gPart (gVar 2))))))) (
  gRet (gTup (gArg (ret (.str "people")) (gArg (gVar 2) (gNil))))) (
  gSkip))) (
  gSeq (gIf (gOrT (gNotT (gTru (gC1 (isiV "list") (gVar 1)))) (gCmpT gtD (gC1 lenV (gVar 1)) (ret (.int 40)))) (
  gRet (gTup (gArg (ret (.str "refused")) (gArg (bnd (ret (.int 1)) fun x => ofO (negD x)) (gNil))))) (
  gSkip)) (
  gSeq (gOwn 3 (ret (.dt [] []))) (
  gSeq (gFor (gI1 (gC1 lenV (gVar 1)) rng1) (gN 2) (
  gSeq (gSet 4 (gIx (gVar 1) (gVar 2))) (
  gSeq (gIf (gOrT (gNotT (gTru (gC1 (isiV "list") (gVar 4)))) (gCmpT eqD (gC1 lenV (gVar 4)) (ret (.int 0)))) (
  gRet (gTup (gArg (ret (.str "refused")) (gArg (gVar 2) (gNil))))) (
  gSkip)) (
  gSeq (gFor (gI1 (gC1 lenV (gVar 4)) rng1) (gN 5) (
  gIf (gOrT (gNotT (gTru (gC1 (isiV "str") (gIx (gVar 4) (gVar 5))))) (gOrT (gCmpT notInD (gIx (gVar 4) (gVar 5)) (gVar 0)) (gCmpT inD (gIx (gVar 4) (gVar 5)) (alt (gSl slD (gVar 4) (ret none) (gPart (gVar 5))) (gSl slL (gVar 4) (ret none) (gPart (gVar 5))))))) (
  gRet (gTup (gArg (ret (.str "refused")) (gArg (gVar 2) (gNil))))) (
  gSkip))) (
  gFor (gSeqI (gVar 4)) (gN 6) (
  gFor (gSeqI (gVar 4)) (gN 7) (
  gIf (gCmpT neD (gVar 6) (gVar 7)) (
  gSetI 3 (gTup (gArg (gVar 6) (gArg (gVar 7) (gNil)))) (ret (.bl true))) (
  gSkip)))))))) (
  gFrz 3 (gRet (gTup (gArg (ret (.str "told")) (gArg (gC1 sortV (gListOf (gVar 3))) (gNil))))))))))
def g_is_group : M Fl := 
  gRet (gAndV (gC1 (isiV "list") (gVar 1)) (gAndV (gCmp geD (gC1 lenV (gVar 1)) (ret (.int 1))) (gCall [.sh, .sh] 2 g_are_different (gArg (gVar 0) (gArg (gVar 1) (gNil))))))
def g_kin : M Fl := 
  gSeq (gDrop (gCall [.sh] 2 g_check_people (gArg (gVar 0) (gNil)))) (
  gSeq (gIf (gOrT (gNotT (gTru (gC1 (isiV "list") (gVar 1)))) (gCmpT gtD (gC1 lenV (gVar 1)) (ret (.int 40)))) (
  gRaise "BadGroups" ["index"] (gOne (bnd (ret (.int 1)) fun x => ofO (negD x)))) (
  gSkip)) (
  gSeq (gOwn 2 (ret (.dt [] []))) (
  gSeq (gFor (gI1 (gVar 1) enumD) (gT2 (gN 3) (gN 4)) (
  gSeq (gIf (gNotT (gTru (gCall [.sh, .sh] 0 g_is_group (gArg (gVar 0) (gArg (gVar 4) (gNil)))))) (
  gRaise "BadGroups" ["index"] (gOne (gVar 3))) (
  gSkip)) (
  gFor (gSeqI (gVar 4)) (gN 5) (
  gFor (gSeqI (gVar 4)) (gN 6) (
  gIf (gCmpT neD (gVar 5) (gVar 6)) (
  gSetI 2 (gTup (gArg (gVar 5) (gArg (gVar 6) (gNil)))) (ret (.bl true))) (
  gSkip)))))) (
  gFrz 2 (gRetF (gC1 sortV (gListOf (gVar 2))))))))
def gm_Party_of_kin : M Fl := 
  gRetF (gMakeS "Party" 0 [.sh, .sh] 1 g_Partyxx_initxx_iss (gArg (gVar 1) (gArg (gCall [.sh, .sh] 5 g_kin (gArg (gVar 1) (gArg (gVar 2) (gNil)))) (gNil))))
def gxxlaw_told : M Fl := 
  gTryM [([("BadPeople", false), ("BadPair", false), ("BadGroups", true)], some 3, gRet (gTup (gArg (ret (.str "refused")) (gArg (gXf "BadGroups" "index" 3) (gNil))))),
  ([("BadPeople", true), ("BadPair", false), ("BadGroups", false)], some 3, gRet (gTup (gArg (ret (.str "people")) (gArg (gXf "BadPeople" "index" 3) (gNil)))))] (
  gSeq (gIf (gCmpT eqD (gVar 2) (ret (.int 0))) (
  gRet (gTup (gArg (ret (.str "told")) (gArg (gCall [.sh, .sh] 5 g_kin (gArg (gVar 0) (gArg (gVar 1) (gNil)))) (gNil))))) (
  gSkip)) (
  gRet (gTup (gArg (ret (.str "told")) (gArg (gMeth "Party" "barred" [.sh] 0 g_Party_barred (gCmF "Party" [.sh, .sh] 0 gm_Party_of_kin (gArg (gVar 0) (gArg (gVar 1) (gNil)))) (gNil)) (gNil))))))
def g_law : M Fl := 
  gSeq (gSet 1 (gCall [.sh, .sh] 4 gxxlaw_draws (gArg (gCall [.sh, .sh] 0 gxxlaw_cell (gArg (gVar 0) (gArg (ret (.int 0)) (gNil)))) (gArg (ret (.int 8)) (gNil))))) (
  gSeq (gSet 2 (gCall [.sh, .sh] 8 gxxlaw_people (gArg (gCall [.sh, .sh] 0 gxxlaw_cell (gArg (gVar 0) (gArg (ret (.int 1)) (gNil)))) (gArg (gBin addD (ret (.int 2)) (gBin modD (gC1 intV (gIx (gVar 1) (ret (.int 6)))) (ret (.int 9)))) (gNil))))) (
  gSeq (gSet 3 (gCall [.sh, .sh, .sh] 6 gxxlaw_groups (gArg (gVar 0) (gArg (gVar 2) (gArg (gVar 1) (gNil)))))) (
  gSeq (gSet 4 (gTupOf (gVar 2))) (
  gSeq (gSet 5 (gBin modD (gC1 intV (gIx (gVar 1) (ret (.int 7)))) (ret (.int 18)))) (
  gSeq (gIf (gCmpT eqD (gVar 5) (ret (.int 0))) (
  gSet 4 (gTup (gArg (gIx (gVar 2) (ret (.int 0))) (gArg (gIx (gVar 2) (ret (.int 0))) (gNil))))) (
  gSkip)) (
  gSeq (gIf (gCmpT eqD (gVar 5) (ret (.int 1))) (
  gSet 4 (gListOf (gVar 2))) (
  gSkip)) (
  gSeq (gIf (gCmpT eqD (gVar 5) (ret (.int 2))) (
  gSet 4 (gTup (gArg (gIx (gVar 2) (ret (.int 0))) (gNil)))) (
  gSkip)) (
  gSeq (gIf (gCmpT eqD (gVar 5) (ret (.int 3))) (
  gSet 4 (gTupOf (gComp [6] (gSeqI (ret (.str "abcdefghijklmnopqrstuvwxy"))) (gN 6) (ret true) (gBin addD (ret (.str "yyyyyyy")) (gVar 6))))) (
  gSkip)) (
  gSeq (gIf (gCmpT eqD (gVar 5) (ret (.int 4))) (
  gSet 4 (gBin addD (gTupOf (gVar 2)) (gTup (gArg (ret (.str "abcdefghi")) (gNil))))) (
  gSkip)) (
  gSeq (gIf (gCmpT eqD (gVar 5) (ret (.int 5))) (
  gSet 4 (gBin addD (gBin addD (gTupOf (alt (gSl slD (gVar 2) (ret none) (gPart (ret (.int 1)))) (gSl slL (gVar 2) (ret none) (gPart (ret (.int 1)))))) (gTup (gArg (ret .non) (gNil)))) (gTupOf (alt (gSl slD (gVar 2) (gPart (ret (.int 1))) (ret none)) (gSl slL (gVar 2) (gPart (ret (.int 1))) (ret none)))))) (
  gSkip)) (
  gSeq (gFor (gSeqI (gLst (gArg (gTupOf (gVar 3)) (gArg (ret .non) (gArg (ret (.dk [] [])) (gArg (ret (.str "")) (gArg (ret (.int 0)) (gNil)))))))) (gN 7) (
  gSeq (gSet 8 (gTup (gArg (ret (.str "refused")) (gArg (bnd (ret (.int 1)) fun x => ofO (negD x)) (gNil))))) (
  gSeq (gIf (gCmpT ltD (gVar 5) (ret (.int 6))) (
  gSet 8 (gCall [.sh, .sh] 6 gxxlaw_due (gArg (gVar 4) (gArg (gLst (gNil)) (gNil))))) (
  gSkip)) (
  gFor (gSeqI (gLst (gArg (ret (.int 0)) (gArg (ret (.int 1)) (gNil))))) (gN 9) (
  gIf (gNotT (gTru (gCall [.sh, .sh] 2 (gxxlaw_equal 6) (gArg (gCall [.sh, .sh, .sh] 1 gxxlaw_told (gArg (gVar 4) (gArg (gVar 7) (gArg (gVar 9) (gNil))))) (gArg (gVar 8) (gNil)))))) (
  gRet (ret (.bl false))) (
  gSkip)))))) (
  gSeq (gSet 10 (gCall [.sh, .sh] 6 gxxlaw_due (gArg (gVar 4) (gArg (gVar 3) (gNil))))) (
  gSeq (gFor (gSeqI (gLst (gArg (ret (.int 0)) (gArg (ret (.int 1)) (gArg (ret (.int 0)) (gNil)))))) (gN 9) (
  gSeq (gSet 11 (gComp [12] (gSeqI (gVar 3)) (gN 12) (ret true) (gIf (gTru (gC1 (isiV "list") (gVar 12))) (gListOf (gVar 12)) (gVar 12)))) (
  gIf (gOrT (gNotT (gTru (gCall [.sh, .sh] 2 (gxxlaw_equal 6) (gArg (gCall [.sh, .sh, .sh] 1 gxxlaw_told (gArg (gVar 4) (gArg (gVar 11) (gArg (gVar 9) (gNil))))) (gArg (gVar 10) (gNil)))))) (gCmpT (orC (orC neD (eqDk true)) (eqTw true)) (gVar 11) (gVar 3))) (
  gRet (ret (.bl false))) (
  gSkip)))) (
  gRet (ret (.bl true))))))))))))))))
theorem e_BadPeople {w : World} {K : Fg} {mg : Str → Option Value} {base : Heap} (hK : Says K) (M : Md K mg base) : ExP1 P w K mg base 1 "BadPeople" "index" := by
  obtain ⟨⟨fd, cc, cda, F⟩, _⟩ := hK.exc 0 (d := xd0)
  have S : NdefX.NScope ["self", "index", "__class__"] ["self", "index"] ["__class__"] (defScope (inClass (top 3) 0)) := NdefX.nscope_by (by decide)
  have F1 := exi1 (w := w) (mg := mg) (base := base) (k := 0) F S rfl rfl (He.free_ok M.kin M.glob (hK.fact 50)) (fun _ => ⟨_, rfl⟩) rfl rfl (He.noat_ok (hK.fact 47)) (by decide) (by decide) (by decide) (by decide)
  obtain ⟨oc, od, kV, doc, pm, an, ct, osl, rfl, lk⟩ := id F.lk
  exact ⟨_, _, F.oex, F.init, F.fty, .all fun us h => (by match us, h with | [_, _], _ => rfl), F1⟩

theorem e_BadGroups {w : World} {K : Fg} {mg : Str → Option Value} {base : Heap} (hK : Says K) (M : Md K mg base) : ExP1 P w K mg base 1 "BadGroups" "index" := by
  obtain ⟨⟨fd, cc, cda, F⟩, _⟩ := hK.exc 1 (d := xd1)
  have S : NdefX.NScope ["self", "index", "__class__"] ["self", "index"] ["__class__"] (defScope (inClass (top 5) 0)) := NdefX.nscope_by (by decide)
  have F1 := exi1 (w := w) (mg := mg) (base := base) (k := 0) F S rfl rfl (He.free_ok M.kin M.glob (hK.fact 50)) (fun _ => ⟨_, rfl⟩) rfl rfl (He.noat_ok (hK.fact 46)) (by decide) (by decide) (by decide) (by decide)
  obtain ⟨oc, od, kV, doc, pm, an, ct, osl, rfl, lk⟩ := id F.lk
  exact ⟨_, _, F.oex, F.init, F.fty, .all fun us h => (by match us, h with | [_, _], _ => rfl), F1⟩

theorem e_BadPair {w : World} {K : Fg} {mg : Str → Option Value} {base : Heap} (hK : Says K) (M : Md K mg base) : ExP1 P w K mg base 1 "BadPair" "index" := by
  obtain ⟨⟨fd, cc, cda, F⟩, _⟩ := hK.exc 2 (d := xd2)
  have S : NdefX.NScope ["self", "index", "__class__"] ["self", "index"] ["__class__"] (defScope (inClass (top 4) 0)) := NdefX.nscope_by (by decide)
  have F1 := exi1 (w := w) (mg := mg) (base := base) (k := 0) F S rfl rfl (He.free_ok M.kin M.glob (hK.fact 50)) (fun _ => ⟨_, rfl⟩) rfl rfl (He.noat_ok (hK.fact 51)) (by decide) (by decide) (by decide) (by decide)
  obtain ⟨oc, od, kV, doc, pm, an, ct, osl, rfl, lk⟩ := id F.lk
  exact ⟨_, _, F.oex, F.init, F.fty, .all fun us h => (by match us, h with | [_, _], _ => rfl), F1⟩

theorem t_gxxlaw_draws {w : World} {K : Fg} {mg : Str → Option Value} {base : Heap} (hK : Says K) (M : Md K mg base) : FnP P w K mg base 2 (He.fAd K ("_law_draws", none)) ["_law_cell_here", "_law_amount"] [.sh, .sh] 4 gxxlaw_draws := by
  refine fnp_of (N := ["_law_cell_here", "_law_amount", "_law_great", "_law_draws_here", "_law_k", "_law_number"]) (hK.def_ 0) (by decide) rfl (fun _ _ _ _ _ _ us h => by match us, h with | [_, _], _ => rfl) fun cd A outer s H E κ hr hN => ?_
  have hu0 := ru0 hr
  have hu1 := ru1 hr
  have hu2 := ru2 hr
  have hu64 := ru64 hr
  have hu65 := ru65 hr
  have hu70 := ru70 hr
  have hu80 := ru80 hr
  exact qss_cons (qs_set 0 hN (qe_int1 (qr_e (qe_var 0)) (He.free_ok M.kin M.glob (hK.fact 0)))) (
  qss_cons (qs_set 2 hN (qe_cmp op_geQ cmg_ord (qe_var 0) (qr_e (qe_pow (qe_int) (qe_int))))) (
  qss_cons (qs_own 3 hN (qf_lst (qa_nil))) (
  qss_cons (qs_for [4] (passes_of rfl) rfl (qi_rng1 (qe_var 1) (hm := (He.free_ok M.kin M.glob (hK.fact 1)))) (qg_name 4 (by decide) hN) (
  qss_one (qs_if (qt_tru (qr_e (qe_var 2))) (
  qss_cons (qs_append 3 (qe_mod (qe_int1 (qr_e (qe_var 0)) (He.free_ok M.kin M.glob (hK.fact 0))) (qe_int))) (
  qss_one (qs_set 0 hN (qe_div (qe_var 0) (qe_int))))) (
  qss_cons (qs_set 5 hN (qe_mod (qe_int1 (qr_e (qe_mul (qe_add (qe_add (qe_var 0) (qe_mul (qe_int) (qe_var 4))) (qe_int)) (qe_int))) (He.free_ok M.kin M.glob (hK.fact 0))) (qe_int))) (
  qss_cons (qs_set 5 hN (qe_mod (qe_int1 (qr_e (qe_mul (qe_var 5) (qe_add (qe_div (qe_var 5) (qe_int)) (qe_int)))) (He.free_ok M.kin M.glob (hK.fact 0))) (qe_int))) (
  qss_cons (qs_set 5 hN (qe_mod (qe_int1 (qr_e (qe_mul (qe_var 5) (qe_add (qe_div (qe_var 5) (qe_int)) (qe_int)))) (He.free_ok M.kin M.glob (hK.fact 0))) (qe_int))) (
  qss_one (qs_append 3 (qe_mod (qe_int1 (qr_e (qe_div (qe_var 5) (qe_int))) (He.free_ok M.kin M.glob (hK.fact 0))) (qe_int)))))))))) (
  qss_one (qs_retO 3)))))

theorem t_gxxlaw_cell {w : World} {K : Fg} {mg : Str → Option Value} {base : Heap} (hK : Says K) (M : Md K mg base) : FnP P w K mg base 2 (He.fAd K ("_law_cell", none)) ["_law_script", "_law_k"] [.sh, .sh] 0 gxxlaw_cell := by
  refine fnp_of (N := ["_law_script", "_law_k"]) (hK.def_ 1) (by decide) rfl (fun _ _ _ _ _ _ us h => by match us, h with | [_, _], _ => rfl) fun cd A outer s H E κ hr hN => ?_
  have hu0 := ru0 hr
  have hu1 := ru1 hr
  have hu2 := ru2 hr
  have hu64 := ru64 hr
  have hu65 := ru65 hr
  have hu70 := ru70 hr
  have hu80 := ru80 hr
  exact qss_cons (qs_if (qt_cmp op_ltQ cmg_ord (qe_var 1) (qr_e (qe_len (qr_e (qe_var 0)) (He.free_ok M.kin M.glob (hK.fact 2))))) (
  qss_one (qs_ret (qe_int1 (qr_e (qe_ix hu1 (qe_var 0) (qe_var 1))) (He.free_ok M.kin M.glob (hK.fact 0))))) (
  qss_nil)) (
  qss_one (qs_ret (qe_add (qe_mul (qe_int) (qe_var 1)) (qe_len (qr_e (qe_var 0)) (He.free_ok M.kin M.glob (hK.fact 2))))))

theorem t_gxxlaw_people {w : World} {K : Fg} {mg : Str → Option Value} {base : Heap} (hK : Says K) (M : Md K mg base) : FnP P w K mg base 3 (He.fAd K ("_law_people", none)) ["_law_cell_here", "_law_amount"] [.sh, .sh] 8 gxxlaw_people := by
  have c_gxxlaw_draws := t_gxxlaw_draws (w := w) hK M
  refine fnp_of (N := ["_law_cell_here", "_law_amount", "_law_letters", "_law_draws_here", "_law_people_here", "_law_k", "_law_number", "_law_size", "_law_name", "_law_j"]) (hK.def_ 2) (by decide) rfl (fun _ _ _ _ _ _ us h => by match us, h with | [_, _], _ => rfl) fun cd A outer s H E κ hr hN => ?_
  have hu0 := ru0 hr
  have hu1 := ru1 hr
  have hu2 := ru2 hr
  have hu64 := ru64 hr
  have hu65 := ru65 hr
  have hu70 := ru70 hr
  have hu80 := ru80 hr
  exact qss_cons (qs_set 2 hN (qe_str)) (
  qss_cons (qs_set 3 hN (qe_callP (ks := [.sh, .sh]) (n := 4) c_gxxlaw_draws (hr.mono (by omega)) (takes_of rfl rfl rfl rfl) (He.glo_ok M.kin M.glob (hK.fact 4)) (qa_e (qe_var 0) (qa_e (qe_mul (qe_int) (qe_var 1)) (qa_nil))))) (
  qss_cons (qs_own 4 hN (qf_lst (qa_nil))) (
  qss_cons (qs_for [5] (passes_of rfl) rfl (qi_rng1 (qe_var 1) (hm := (He.free_ok M.kin M.glob (hK.fact 1)))) (qg_name 5 (by decide) hN) (
  qss_cons (qs_set 6 hN (qe_add (qe_mul (qe_ix hu1 (qe_var 3) (qe_mul (qe_int) (qe_var 5))) (qe_int)) (qe_ix hu1 (qe_var 3) (qe_add (qe_mul (qe_int) (qe_var 5)) (qe_int))))) (
  qss_cons (qs_set 7 hN (qe_add (qe_int) (qe_mod (qe_int1 (qr_e (qe_var 6)) (He.free_ok M.kin M.glob (hK.fact 0))) (qe_int)))) (
  qss_cons (qs_set 6 hN (qe_div (qe_var 6) (qe_int))) (
  qss_cons (qs_set 8 hN (qe_str)) (
  qss_cons (qs_for [9] (passes_of rfl) rfl (qi_rng1 (qe_var 7) (hm := (He.free_ok M.kin M.glob (hK.fact 1)))) (qg_name 9 (by decide) hN) (
  qss_cons (qs_set 8 hN (qe_add (qe_var 8) (qe_ix hu1 (qe_var 2) (qe_mod (qe_int1 (qr_e (qe_var 6)) (He.free_ok M.kin M.glob (hK.fact 0))) (qe_int))))) (
  qss_one (qs_set 6 hN (qe_div (qe_var 6) (qe_int)))))) (
  qss_cons (qs_if (qt_cmp (op_inQ hu65) cmg_in (qe_var 8) (qr_var 4)) (
  qss_one (qs_set 8 hN (qe_add (qe_str) (qe_ix hu1 (qe_var 2) (qe_var 5))))) (
  qss_nil)) (
  qss_one (qs_append 4 (qe_var 8)))))))))) (
  qss_one (qs_retO 4)))))

theorem t_gxxlaw_lot {w : World} {K : Fg} {mg : Str → Option Value} {base : Heap} (hK : Says K) (M : Md K mg base) : FnP P w K mg base 2 (He.fAd K ("_law_lot", none)) ["_law_draws_here", "_law_people_here", "_law_weight"] [.sh, .sh, .sh] 3 gxxlaw_lot := by
  refine fnp_of (N := ["_law_draws_here", "_law_people_here", "_law_weight", "_law_chosen", "_law_k", "_law_shift"]) (hK.def_ 3) (by decide) rfl (fun _ _ _ _ _ _ us h => by match us, h with | [_, _, _], _ => rfl) fun cd A outer s H E κ hr hN => ?_
  have hu0 := ru0 hr
  have hu1 := ru1 hr
  have hu2 := ru2 hr
  have hu64 := ru64 hr
  have hu65 := ru65 hr
  have hu70 := ru70 hr
  have hu80 := ru80 hr
  exact qss_cons (by first | exact qs_set 3 hN (qe_f (qf_comp rfl hN (qi_rng1 (qe_len (qr_e (qe_var 1)) (He.free_ok M.kin M.glob (hK.fact 2))) (hm := (He.free_ok M.kin M.glob (hK.fact 1)))) (own := [("_law_k", 4)]) (blkOk_by (by first | rfl | kernel_rfl)) rfl (fun _ _ _ _ _ _ => qg_name 4 (by decide) hN) (fun _ _ _ _ _ _ => qts_one (qt_cmp op_ltQ cmg_ord (qe_mod (qe_int1 (qr_e (qe_ix hu1 (qe_var 0) (qe_var 4))) (He.free_ok M.kin M.glob (hK.fact 0))) (qe_int)) (qr_e (qe_var 2)))) (fun _ _ _ _ _ _ => qe_ix hu1 (qe_var 1) (qe_var 4)))) | exact qs_shOf (qs_ownLc 3 rfl hN (qi_rng1 (qe_len (qr_e (qe_var 1)) (He.free_ok M.kin M.glob (hK.fact 2))) (hm := (He.free_ok M.kin M.glob (hK.fact 1)))) (own := [("_law_k", 4)]) (blkOk_by (by first | rfl | kernel_rfl)) rfl (fun _ _ _ _ _ _ => qg_name 4 (by decide) hN) (fun _ _ _ _ _ _ => qts_one (qt_cmp op_ltQ cmg_ord (qe_mod (qe_int1 (qr_e (qe_ix hu1 (qe_var 0) (qe_var 4))) (He.free_ok M.kin M.glob (hK.fact 0))) (qe_int)) (qr_e (qe_var 2)))) (fun _ _ _ _ _ _ => qe_ix hu1 (qe_var 1) (qe_var 4)))) (
  qss_cons (qs_if (qt_cmp (op_eqD hu64) cmg_eq (qe_len (qr_e (qe_var 3)) (He.free_ok M.kin M.glob (hK.fact 2))) (qr_e (qe_int))) (
  qss_one (qs_set 3 hN (qe_f (qf_lst (qa_e (qe_ix hu1 (qe_var 1) (qe_mod (qe_int1 (qr_e (qe_div (qe_ix hu1 (qe_var 0) (qe_int)) (qe_int))) (He.free_ok M.kin M.glob (hK.fact 0))) (qe_len (qr_e (qe_var 1)) (He.free_ok M.kin M.glob (hK.fact 2))))) (qa_nil)))))) (
  qss_nil)) (
  qss_cons (qs_set 5 hN (qe_mod (qe_int1 (qr_e (qe_div (qe_ix hu1 (qe_var 0) (qe_int)) (qe_int))) (He.free_ok M.kin M.glob (hK.fact 0))) (qe_len (qr_e (qe_var 3)) (He.free_ok M.kin M.glob (hK.fact 2))))) (
  qss_one (qs_ret (qe_tupOf (qe_alt (qe_add (qe_alt (qe_sl (qe_var 3) (qo_some (qe_var 5)) (qo_none)) (qe_f (qf_sl (qe_var 3) (qo_some (qe_var 5)) (qo_none)))) (qe_alt (qe_sl (qe_var 3) (qo_none) (qo_some (qe_var 5))) (qe_f (qf_sl (qe_var 3) (qo_none) (qo_some (qe_var 5)))))) (qe_f (qf_addL (qe_alt (qe_sl (qe_var 3) (qo_some (qe_var 5)) (qo_none)) (qe_f (qf_sl (qe_var 3) (qo_some (qe_var 5)) (qo_none)))) (qe_alt (qe_sl (qe_var 3) (qo_none) (qo_some (qe_var 5))) (qe_f (qf_sl (qe_var 3) (qo_none) (qo_some (qe_var 5)))))))) (He.free_ok M.kin M.glob (hK.fact 7)))))))

theorem t_gxxlaw_groups {w : World} {K : Fg} {mg : Str → Option Value} {base : Heap} (hK : Says K) (M : Md K mg base) : FnP P w K mg base 3 (He.fAd K ("_law_groups", none)) ["_law_script", "_law_people_here", "_law_draws_here"] [.sh, .sh, .sh] 6 gxxlaw_groups := by
  have c_gxxlaw_draws := t_gxxlaw_draws (w := w) hK M
  have c_gxxlaw_cell := t_gxxlaw_cell (w := w) hK M
  have c_gxxlaw_lot := t_gxxlaw_lot (w := w) hK M
  refine fnp_of (N := ["_law_script", "_law_people_here", "_law_draws_here", "_law_many", "_law_groups_here", "_law_k", "_law_size", "_law_a", "_law_odd"]) (hK.def_ 4) (by decide) rfl (fun _ _ _ _ _ _ us h => by match us, h with | [_, _, _], _ => rfl) fun cd A outer s H E κ hr hN => ?_
  have hu0 := ru0 hr
  have hu1 := ru1 hr
  have hu2 := ru2 hr
  have hu64 := ru64 hr
  have hu65 := ru65 hr
  have hu70 := ru70 hr
  have hu80 := ru80 hr
  exact qss_cons (qs_set 3 hN (qe_ix hu1 (qe_f (qf_lst (qa_e (qe_mod (qe_int1 (qr_e (qe_ix hu1 (qe_var 2) (qe_int))) (He.free_ok M.kin M.glob (hK.fact 0))) (qe_int)) (qa_e (qe_mod (qe_int1 (qr_e (qe_ix hu1 (qe_var 2) (qe_int))) (He.free_ok M.kin M.glob (hK.fact 0))) (qe_int)) (qa_e (qe_mod (qe_int1 (qr_e (qe_ix hu1 (qe_var 2) (qe_int))) (He.free_ok M.kin M.glob (hK.fact 0))) (qe_int)) (qa_e (qe_add (qe_int) (qe_mod (qe_int1 (qr_e (qe_ix hu1 (qe_var 2) (qe_int))) (He.free_ok M.kin M.glob (hK.fact 0))) (qe_int))) (qa_nil))))))) (qe_mod (qe_int1 (qr_e (qe_ix hu1 (qe_var 2) (qe_int))) (He.free_ok M.kin M.glob (hK.fact 0))) (qe_int)))) (
  qss_cons (qs_own 4 hN (qf_lst (qa_nil))) (
  qss_cons (qs_for [5] (passes_of rfl) rfl (qi_rng1 (qe_var 3) (hm := (He.free_ok M.kin M.glob (hK.fact 1)))) (qg_name 5 (by decide) hN) (
  qss_cons (qs_set 6 hN (qe_callP (ks := [.sh, .sh]) (n := 4) c_gxxlaw_draws (hr.mono (by omega)) (Takes.unl (takes_of rfl rfl rfl rfl)) (He.glo_ok M.kin M.glob (hK.fact 4)) (qa_e (qe_callP (ks := [.sh, .sh]) (n := 0) c_gxxlaw_cell (hr.mono (by omega)) (Takes.unl (takes_of rfl rfl rfl rfl)) (He.glo_ok M.kin M.glob (hK.fact 3)) (qa_e (qe_var 0) (qa_e (qe_add (qe_int) (qe_var 5)) (qa_nil)))) (qa_e (qe_add (qe_len (qr_e (qe_var 1)) (He.free_ok M.kin M.glob (hK.fact 2))) (qe_int)) (qa_nil))))) (
  qss_one (qs_append 4 (qe_f (qf_listOf (qe_callP (ks := [.sh, .sh, .sh]) (n := 3) c_gxxlaw_lot (hr.mono (by omega)) (Takes.unl (takes_of rfl rfl rfl rfl)) (He.glo_ok M.kin M.glob (hK.fact 8)) (qa_e (qe_alt (qe_sl (qe_var 6) (qo_some (qe_int)) (qo_none)) (qe_f (qf_sl (qe_var 6) (qo_some (qe_int)) (qo_none)))) (qa_e (qe_var 1) (qa_e (qe_add (qe_int) (qe_mod (qe_int1 (qr_e (qe_ix hu1 (qe_var 6) (qe_int))) (He.free_ok M.kin M.glob (hK.fact 0))) (qe_int))) (qa_nil))))) (He.free_ok M.kin M.glob (hK.fact 6)))))))) (
  qss_cons (qs_if (qt_w (qw_and (qt_cmp op_gtQ cmg_ord (qe_var 3) (qr_e (qe_int))) (qw_and1 (qt_cmp (op_eqD hu64) cmg_eq (qe_mod (qe_int1 (qr_e (qe_ix hu1 (qe_var 2) (qe_int))) (He.free_ok M.kin M.glob (hK.fact 0))) (qe_int)) (qr_e (qe_int)))))) (
  qss_cons (qs_set 7 hN (qe_ix hu1 (qe_var 1) (qe_mod (qe_int1 (qr_e (qe_ix hu1 (qe_var 2) (qe_int))) (He.free_ok M.kin M.glob (hK.fact 0))) (qe_len (qr_e (qe_var 1)) (He.free_ok M.kin M.glob (hK.fact 2)))))) (
  qss_cons (qs_set 8 hN (qe_f (qf_lst (qa_e (qe_f (qf_lst (qa_nil))) (qa_e (qe_tup (qa_e (qe_var 7) (qa_nil))) (qa_e (qe_f (qf_lst (qa_e (qe_var 7) (qa_e (qe_ix hu1 (qe_var 1) (qe_int)) (qa_e (qe_var 7) (qa_nil)))))) (qa_e (qe_f (qf_lst (qa_e (qe_var 7) (qa_e (qe_str) (qa_nil))))) (qa_e (qe_non) (qa_e (qe_var 7) (qa_e (qe_f (qf_lst (qa_e (qe_non) (qa_nil)))) (qa_e (qe_f (qf_lst (qa_e (qe_f (qf_lst (qa_e (qe_var 7) (qa_nil)))) (qa_nil)))) (qa_e (qe_f (qf_dk)) (qa_e (qe_f (qf_lst (qa_e (qe_ix hu1 (qe_var 1) (qe_int)) (qa_e (qe_int) (qa_nil))))) (qa_nil)))))))))))))) (
  qss_one (qs_setI 4 hu1 (qe_ix hu1 (qe_var 8) (qe_mod (qe_int1 (qr_e (qe_ix hu1 (qe_var 2) (qe_int))) (He.free_ok M.kin M.glob (hK.fact 0))) (qe_int))) (qe_mod (qe_int1 (qr_e (qe_ix hu1 (qe_var 2) (qe_int))) (He.free_ok M.kin M.glob (hK.fact 0))) (qe_var 3)))))) (
  qss_nil)) (
  qss_one (qs_retO 4)))))

theorem t_gxxlaw_due {w : World} {K : Fg} {mg : Str → Option Value} {base : Heap} (hK : Says K) (M : Md K mg base) : FnP P w K mg base 2 (He.fAd K ("_law_due", none)) ["_law_people_here", "_law_groups_here"] [.sh, .sh] 6 gxxlaw_due := by
  refine fnp_of (N := ["_law_people_here", "_law_groups_here", "_law_k", "_law_pairs", "_law_group", "_law_j", "_law_a", "_law_b"]) (hK.def_ 5) (by decide) rfl (fun _ _ _ _ _ _ us h => by match us, h with | [_, _], _ => rfl) fun cd A outer s H E κ hr hN => ?_
  have hu0 := ru0 hr
  have hu1 := ru1 hr
  have hu2 := ru2 hr
  have hu64 := ru64 hr
  have hu65 := ru65 hr
  have hu70 := ru70 hr
  have hu80 := ru80 hr
  exact qss_cons (qs_if (qt_w (qw_or (qt_not (qt_tru (qr_e (qe_isi "tuple" (qr_e (qe_var 0)) (He.free_ok M.kin M.glob (hK.fact 10)) (He.free_ok M.kin M.glob (hK.fact 7)))))) (qw_or (qt_cmp op_ltQ cmg_ord (qe_len (qr_e (qe_var 0)) (He.free_ok M.kin M.glob (hK.fact 2))) (qr_e (qe_int))) (qw_or1 (qt_cmp op_gtQ cmg_ord (qe_len (qr_e (qe_var 0)) (He.free_ok M.kin M.glob (hK.fact 2))) (qr_e (qe_int))))))) (
  qss_one (qs_ret (qe_tup (qa_e (qe_str) (qa_e (qe_neg (qe_int)) (qa_nil)))))) (
  qss_nil)) (
  qss_cons (qs_for [2] (passes_of rfl) rfl (qi_rng1 (qe_len (qr_e (qe_var 0)) (He.free_ok M.kin M.glob (hK.fact 2))) (hm := (He.free_ok M.kin M.glob (hK.fact 1)))) (qg_name 2 (by decide) hN) (
  qss_one (qs_if (qt_w (qw_or (qt_not (qt_tru (qr_e (qe_isi "str" (qr_e (qe_ix hu1 (qe_var 0) (qe_var 2))) (He.free_ok M.kin M.glob (hK.fact 10)) (He.free_ok M.kin M.glob (hK.fact 11)))))) (qw_or (qt_cmp op_gtQ cmg_ord (qe_len (qr_e (qe_ix hu1 (qe_var 0) (qe_var 2))) (He.free_ok M.kin M.glob (hK.fact 2))) (qr_e (qe_int))) (qw_or1 (qt_cmp (op_inQ hu65) cmg_in (qe_ix hu1 (qe_var 0) (qe_var 2)) (qr_e (qe_alt (qe_sl (qe_var 0) (qo_none) (qo_some (qe_var 2))) (qe_f (qf_sl (qe_var 0) (qo_none) (qo_some (qe_var 2))))))))))) (
  qss_one (qs_ret (qe_tup (qa_e (qe_str) (qa_e (qe_var 2) (qa_nil)))))) (
  qss_nil)))) (
  qss_cons (qs_if (qt_w (qw_or (qt_not (qt_tru (qr_e (qe_isi "list" (qr_e (qe_var 1)) (He.free_ok M.kin M.glob (hK.fact 10)) (He.free_ok M.kin M.glob (hK.fact 6)))))) (qw_or1 (qt_cmp op_gtQ cmg_ord (qe_len (qr_e (qe_var 1)) (He.free_ok M.kin M.glob (hK.fact 2))) (qr_e (qe_int)))))) (
  qss_one (qs_ret (qe_tup (qa_e (qe_str) (qa_e (qe_neg (qe_int)) (qa_nil)))))) (
  qss_nil)) (
  qss_cons (qs_own 3 hN (qf_dt)) (
  qss_cons (qs_for [2] (passes_of rfl) rfl (qi_rng1 (qe_len (qr_e (qe_var 1)) (He.free_ok M.kin M.glob (hK.fact 2))) (hm := (He.free_ok M.kin M.glob (hK.fact 1)))) (qg_name 2 (by decide) hN) (
  qss_cons (qs_set 4 hN (qe_ix hu1 (qe_var 1) (qe_var 2))) (
  qss_cons (qs_if (qt_w (qw_or (qt_not (qt_tru (qr_e (qe_isi "list" (qr_e (qe_var 4)) (He.free_ok M.kin M.glob (hK.fact 10)) (He.free_ok M.kin M.glob (hK.fact 6)))))) (qw_or1 (qt_cmp (op_eqD hu64) cmg_eq (qe_len (qr_e (qe_var 4)) (He.free_ok M.kin M.glob (hK.fact 2))) (qr_e (qe_int)))))) (
  qss_one (qs_ret (qe_tup (qa_e (qe_str) (qa_e (qe_var 2) (qa_nil)))))) (
  qss_nil)) (
  qss_cons (qs_for [5] (passes_of rfl) rfl (qi_rng1 (qe_len (qr_e (qe_var 4)) (He.free_ok M.kin M.glob (hK.fact 2))) (hm := (He.free_ok M.kin M.glob (hK.fact 1)))) (qg_name 5 (by decide) hN) (
  qss_one (qs_if (qt_w (qw_or (qt_not (qt_tru (qr_e (qe_isi "str" (qr_e (qe_ix hu1 (qe_var 4) (qe_var 5))) (He.free_ok M.kin M.glob (hK.fact 10)) (He.free_ok M.kin M.glob (hK.fact 11)))))) (qw_or (qt_cmp (op_notInQ hu65) cmg_notIn (qe_ix hu1 (qe_var 4) (qe_var 5)) (qr_e (qe_var 0))) (qw_or1 (qt_cmp (op_inQ hu65) cmg_in (qe_ix hu1 (qe_var 4) (qe_var 5)) (qr_e (qe_alt (qe_sl (qe_var 4) (qo_none) (qo_some (qe_var 5))) (qe_f (qf_sl (qe_var 4) (qo_none) (qo_some (qe_var 5))))))))))) (
  qss_one (qs_ret (qe_tup (qa_e (qe_str) (qa_e (qe_var 2) (qa_nil)))))) (
  qss_nil)))) (
  qss_one (qs_for [6] (passes_of rfl) rfl (qi_seq (qe_var 4)) (qg_name 6 (by decide) hN) (
  qss_one (qs_for [7] (passes_of rfl) rfl (qi_seq (qe_var 4)) (qg_name 7 (by decide) hN) (
  qss_one (qs_if (qt_cmp (op_neD hu64) cmg_ne (qe_var 6) (qr_e (qe_var 7))) (
  qss_one (qs_setI 3 hu1 (qe_bl) (qe_tup (qa_e (qe_var 6) (qa_e (qe_var 7) (qa_nil)))))) (
  qss_nil))))))))))) (
  qss_one (qs_frz 3 (qs_ret (qe_tup (qa_e (qe_str) (qa_e (qe_f (qf_sorted hu70 (qr_e (qe_f (qf_listOf (qe_var 3) (He.free_ok M.kin M.glob (hK.fact 6))))) (He.free_ok M.kin M.glob (hK.fact 12)))) (qa_nil)))))))))))

theorem t_gxxlaw_equal {w : World} {K : Fg} {mg : Str → Option Value} {base : Heap} (hK : Says K) (M : Md K mg base) (m : Nat) : FnP P w K mg base (2 + m) (He.fAd K ("_law_equal", none)) ["_law_actual", "_law_due_here"] [.sh, .sh] 2 (gxxlaw_equal m) := by
  induction m with
  | zero => exact fnp_of (k := 1) (N := ["_law_actual", "_law_due_here", "_law_k", "_law_key"]) (hK.def_ 6) (by decide) rfl (fun _ _ _ _ _ _ us h => by match us, h with | [_, _], _ => rfl) fun _ _ _ _ _ _ _ _ _ => qss_stuck
  | succ m ih =>
  refine fnp_of (N := ["_law_actual", "_law_due_here", "_law_k", "_law_key"]) (hK.def_ 6) (by decide) rfl (fun _ _ _ _ _ _ us h => by match us, h with | [_, _], _ => rfl) fun cd A outer s H E κ hr hN => ?_
  replace hr := (show Room (2 + m) _ from hr)
  have hu0 := ru0 hr
  have hu1 := ru1 hr
  have hu2 := ru2 hr
  have hu64 := ru64 hr
  have hu65 := ru65 hr
  have hu70 := ru70 hr
  have hu80 := ru80 hr
  exact qss_cons (qs_if (qt_w (qw_or (qt_tru (qr_e (qe_isi "list" (qr_e (qe_var 1)) (He.free_ok M.kin M.glob (hK.fact 10)) (He.free_ok M.kin M.glob (hK.fact 6))))) (qw_or1 (qt_tru (qr_e (qe_isi "tuple" (qr_e (qe_var 1)) (He.free_ok M.kin M.glob (hK.fact 10)) (He.free_ok M.kin M.glob (hK.fact 7)))))))) (
  qss_cons (qs_if (qt_w (qw_and (qt_tru (qr_e (qe_isi "list" (qr_e (qe_var 1)) (He.free_ok M.kin M.glob (hK.fact 10)) (He.free_ok M.kin M.glob (hK.fact 6))))) (qw_and1 (qt_not (qt_tru (qr_e (qe_isi "list" (qr_e (qe_var 0)) (He.free_ok M.kin M.glob (hK.fact 10)) (He.free_ok M.kin M.glob (hK.fact 6))))))))) (
  qss_one (qs_ret (qe_bl))) (
  qss_nil)) (
  qss_cons (qs_if (qt_w (qw_and (qt_tru (qr_e (qe_isi "tuple" (qr_e (qe_var 1)) (He.free_ok M.kin M.glob (hK.fact 10)) (He.free_ok M.kin M.glob (hK.fact 7))))) (qw_and1 (qt_not (qt_tru (qr_e (qe_isi "tuple" (qr_e (qe_var 0)) (He.free_ok M.kin M.glob (hK.fact 10)) (He.free_ok M.kin M.glob (hK.fact 7))))))))) (
  qss_one (qs_ret (qe_bl))) (
  qss_nil)) (
  qss_cons (qs_if (qt_cmp (op_neD hu64) cmg_ne (qe_len (qr_e (qe_var 0)) (He.free_ok M.kin M.glob (hK.fact 2))) (qr_e (qe_len (qr_e (qe_var 1)) (He.free_ok M.kin M.glob (hK.fact 2))))) (
  qss_one (qs_ret (qe_bl))) (
  qss_nil)) (
  qss_one (qs_ret (qe_all (qr_e (qe_f (qf_comp rfl hN (qi_rng1 (qe_len (qr_e (qe_var 1)) (He.free_ok M.kin M.glob (hK.fact 2))) (hm := (He.free_ok M.kin M.glob (hK.fact 1)))) (own := [("_law_k", 2)]) (blkOk_by (by first | rfl | kernel_rfl)) rfl (fun _ _ _ _ _ _ => qg_name 2 (by decide) hN) (fun _ _ _ _ _ _ => qts_nil) (fun _ _ _ _ _ _ => qe_callP (ks := [.sh, .sh]) (n := 2) ih (hr.mono (by omega)) takes_wf (He.glo_ok M.kin M.glob (hK.fact 15)) (qa_e (qe_ix hu1 (qe_var 0) (qe_var 2)) (qa_e (qe_ix hu1 (qe_var 1) (qe_var 2)) (qa_nil))))))) (He.free_ok M.kin M.glob (hK.fact 14)))))))) (
  qss_nil)) (
  qss_cons (qs_if (qt_tru (qr_e (qe_isi "dict" (qr_e (qe_var 1)) (He.free_ok M.kin M.glob (hK.fact 10)) (He.free_ok M.kin M.glob (hK.fact 16))))) (
  qss_cons (qs_if (qt_w (qw_or (qt_not (qt_tru (qr_e (qe_isi "dict" (qr_e (qe_var 0)) (He.free_ok M.kin M.glob (hK.fact 10)) (He.free_ok M.kin M.glob (hK.fact 16)))))) (qw_or1 (qt_cmp (op_neD hu64) cmg_ne (qe_len (qr_e (qe_var 0)) (He.free_ok M.kin M.glob (hK.fact 2))) (qr_e (qe_len (qr_e (qe_var 1)) (He.free_ok M.kin M.glob (hK.fact 2)))))))) (
  qss_one (qs_ret (qe_bl))) (
  qss_nil)) (
  qss_cons (qs_for [3] (passes_of rfl) rfl (qi_seq (qe_var 1)) (qg_name 3 (by decide) hN) (
  qss_one (qs_if (qt_w (qw_or (qt_cmp (op_notInQ hu65) cmg_notIn (qe_var 3) (qr_e (qe_var 0))) (qw_or1 (qt_not (qt_tru (qr_e (qe_callP (ks := [.sh, .sh]) (n := 2) ih (hr.mono (by omega)) (Takes.unl (takes_of rfl rfl rfl rfl)) (He.glo_ok M.kin M.glob (hK.fact 15)) (qa_e (qe_ix hu1 (qe_var 0) (qe_var 3)) (qa_e (qe_ix hu1 (qe_var 1) (qe_var 3)) (qa_nil)))))))))) (
  qss_one (qs_ret (qe_bl))) (
  qss_nil)))) (
  qss_one (qs_ret (qe_bl))))) (
  qss_nil)) (
  qss_cons (qs_if (qt_tru (qr_e (qe_isi "bool" (qr_e (qe_var 1)) (He.free_ok M.kin M.glob (hK.fact 10)) (He.free_ok M.kin M.glob (hK.fact 17))))) (
  qss_one (qs_ret (qe_and (qe_isi "bool" (qr_e (qe_var 0)) (He.free_ok M.kin M.glob (hK.fact 10)) (He.free_ok M.kin M.glob (hK.fact 17))) (qe_one (qe_cmp (op_eqD hu64) cmg_eq (qe_var 0) (qr_e (qe_var 1))))))) (
  qss_nil)) (
  qss_cons (qs_if (qt_tru (qr_e (qe_isi "str" (qr_e (qe_var 1)) (He.free_ok M.kin M.glob (hK.fact 10)) (He.free_ok M.kin M.glob (hK.fact 11))))) (
  qss_one (qs_ret (qe_and (qe_isi "str" (qr_e (qe_var 0)) (He.free_ok M.kin M.glob (hK.fact 10)) (He.free_ok M.kin M.glob (hK.fact 11))) (qe_one (qe_cmp (op_eqD hu64) cmg_eq (qe_var 0) (qr_e (qe_var 1))))))) (
  qss_nil)) (
  qss_cons (qs_if (qt_tru (qr_e (qe_isi "int" (qr_e (qe_var 1)) (He.free_ok M.kin M.glob (hK.fact 10)) (He.free_ok M.kin M.glob (hK.fact 0))))) (
  qss_one (qs_ret (qe_and (qe_isi "int" (qr_e (qe_var 0)) (He.free_ok M.kin M.glob (hK.fact 10)) (He.free_ok M.kin M.glob (hK.fact 0))) (qe_and (qe_not (qe_isi "bool" (qr_e (qe_var 0)) (He.free_ok M.kin M.glob (hK.fact 10)) (He.free_ok M.kin M.glob (hK.fact 17)))) (qe_one (qe_cmp (op_eqD hu64) cmg_eq (qe_var 0) (qr_e (qe_var 1)))))))) (
  qss_nil)) (
  qss_one (qs_ret (qe_and (qe_cmp op_isN cmg_isN (qe_var 1) (qr_e (qe_non))) (qe_one (qe_cmp op_isN cmg_isN (qe_var 0) (qr_e (qe_non)))))))))))

theorem t_g_is_name {w : World} {K : Fg} {mg : Str → Option Value} {base : Heap} (hK : Says K) (M : Md K mg base) : FnP P w K mg base 2 (He.fAd K ("is_name", none)) ["value"] [.sh] 1 g_is_name := by
  refine fnp_of (N := ["value", "sign"]) (hK.def_ 7) (by decide) rfl (fun _ _ _ _ _ _ us h => by match us, h with | [_], _ => rfl) fun cd A outer s H E κ hr hN => ?_
  have hu0 := ru0 hr
  have hu1 := ru1 hr
  have hu2 := ru2 hr
  have hu64 := ru64 hr
  have hu65 := ru65 hr
  have hu70 := ru70 hr
  have hu80 := ru80 hr
  exact qss_cons (qs_if (qt_w (qw_or (qt_not (qt_tru (qr_e (qe_isi "str" (qr_e (qe_var 0)) (He.free_ok M.kin M.glob (hK.fact 10)) (He.free_ok M.kin M.glob (hK.fact 11)))))) (qw_or1 (qt_not (qt_chain op_leQ cmg_ord op_leQ cmg_ord (qe_int) (qe_len (qr_e (qe_var 0)) (He.free_ok M.kin M.glob (hK.fact 2))) (qe_int)))))) (
  qss_one (qs_ret (qe_bl))) (
  qss_nil)) (
  qss_cons (qs_for [1] (passes_of rfl) rfl (qi_seq (qe_var 0)) (qg_name 1 (by decide) hN) (
  qss_one (qs_if (qt_cmp (op_notInQ hu65) cmg_notIn (qe_var 1) (qr_e (qe_gstr (He.str_ok M.kin M.glob (hK.fact 27))))) (
  qss_one (qs_ret (qe_bl))) (
  qss_nil)))) (
  qss_one (qs_ret (qe_bl))))

theorem t_g_check_people {w : World} {K : Fg} {mg : Str → Option Value} {base : Heap} (hK : Says K) (M : Md K mg base) : FnP P w K mg base 3 (He.fAd K ("check_people", none)) ["people"] [.sh] 2 g_check_people := by
  have c_g_is_name := t_g_is_name (w := w) hK M
  have x_BadPeople := e_BadPeople (w := w) hK M
  refine fnp_of (N := ["people", "index", "person"]) (hK.def_ 8) (by decide) rfl (fun _ _ _ _ _ _ us h => by match us, h with | [_], _ => rfl) fun cd A outer s H E κ hr hN => ?_
  have hu0 := ru0 hr
  have hu1 := ru1 hr
  have hu2 := ru2 hr
  have hu64 := ru64 hr
  have hu65 := ru65 hr
  have hu70 := ru70 hr
  have hu80 := ru80 hr
  exact qss_cons (qs_if (qt_w (qw_or (qt_not (qt_tru (qr_e (qe_isi "tuple" (qr_e (qe_var 0)) (He.free_ok M.kin M.glob (hK.fact 10)) (He.free_ok M.kin M.glob (hK.fact 7)))))) (qw_or1 (qt_not (qt_chain op_leQ cmg_ord op_leQ cmg_ord (qe_int) (qe_len (qr_e (qe_var 0)) (He.free_ok M.kin M.glob (hK.fact 2))) (qe_gint (He.int_ok M.kin M.glob (hK.fact 24)))))))) (
  qss_one (qs_raiseP1 rfl (takes_of rfl rfl rfl rfl) x_BadPeople (hr.mono (by omega)) (He.glo_ok M.kin M.glob (hK.fact 25)) (qe_neg (qe_int)))) (
  qss_nil)) (
  qss_one (qs_for [1, 2] (passes_of rfl) rfl (qi_enum (qe_var 0) (hm := (He.free_ok M.kin M.glob (hK.fact 26)))) (qg_t2 rfl (qg_name 1 (by decide) hN) (qg_name 2 (by decide) hN)) (
  qss_one (qs_if (qt_w (qw_or (qt_not (qt_tru (qr_e (qe_callP (ks := [.sh]) (n := 1) c_g_is_name (hr.mono (by omega)) (Takes.unl (takes_of rfl rfl rfl rfl)) (He.glo_ok M.kin M.glob (hK.fact 28)) (qa_e (qe_var 2) (qa_nil)))))) (qw_or1 (qt_cmp (op_inQ hu65) cmg_in (qe_var 2) (qr_e (qe_alt (qe_sl (qe_var 0) (qo_none) (qo_some (qe_var 1))) (qe_f (qf_sl (qe_var 0) (qo_none) (qo_some (qe_var 1)))))))))) (
  qss_one (qs_raiseP1 rfl (Takes.unl (takes_of rfl rfl rfl rfl)) x_BadPeople (hr.mono (by omega)) (He.glo_ok M.kin M.glob (hK.fact 25)) (qe_var 1))) (
  qss_nil)))))

theorem t_g_is_person {w : World} {K : Fg} {mg : Str → Option Value} {base : Heap} (hK : Says K) (M : Md K mg base) : FnP P w K mg base 2 (He.fAd K ("is_person", none)) ["people", "value"] [.sh, .sh] 0 g_is_person := by
  refine fnp_of (N := ["people", "value"]) (hK.def_ 9) (by decide) rfl (fun _ _ _ _ _ _ us h => by match us, h with | [_, _], _ => rfl) fun cd A outer s H E κ hr hN => ?_
  have hu0 := ru0 hr
  have hu1 := ru1 hr
  have hu2 := ru2 hr
  have hu64 := ru64 hr
  have hu65 := ru65 hr
  have hu70 := ru70 hr
  have hu80 := ru80 hr
  exact qss_one (qs_ret (qe_and (qe_isi "str" (qr_e (qe_var 1)) (He.free_ok M.kin M.glob (hK.fact 10)) (He.free_ok M.kin M.glob (hK.fact 11))) (qe_one (qe_cmp (op_inQ hu65) cmg_in (qe_var 1) (qr_e (qe_var 0))))))

theorem t_g_are_different {w : World} {K : Fg} {mg : Str → Option Value} {base : Heap} (hK : Says K) (M : Md K mg base) : FnP P w K mg base 3 (He.fAd K ("are_different", none)) ["people", "values"] [.sh, .sh] 2 g_are_different := by
  have c_g_is_person := t_g_is_person (w := w) hK M
  refine fnp_of (N := ["people", "values", "index", "value"]) (hK.def_ 10) (by decide) rfl (fun _ _ _ _ _ _ us h => by match us, h with | [_, _], _ => rfl) fun cd A outer s H E κ hr hN => ?_
  have hu0 := ru0 hr
  have hu1 := ru1 hr
  have hu2 := ru2 hr
  have hu64 := ru64 hr
  have hu65 := ru65 hr
  have hu70 := ru70 hr
  have hu80 := ru80 hr
  exact qss_cons (qs_for [2, 3] (passes_of rfl) rfl (qi_enum (qe_var 1) (hm := (He.free_ok M.kin M.glob (hK.fact 26)))) (qg_t2 rfl (qg_name 2 (by decide) hN) (qg_name 3 (by decide) hN)) (
  qss_one (qs_if (qt_w (qw_or (qt_not (qt_tru (qr_e (qe_callP (ks := [.sh, .sh]) (n := 0) c_g_is_person (hr.mono (by omega)) (Takes.unl (takes_of rfl rfl rfl rfl)) (He.glo_ok M.kin M.glob (hK.fact 32)) (qa_e (qe_var 0) (qa_e (qe_var 3) (qa_nil))))))) (qw_or1 (qt_cmp (op_inQ hu65) cmg_in (qe_var 3) (qr_e (qe_alt (qe_sl (qe_var 1) (qo_none) (qo_some (qe_var 2))) (qe_f (qf_sl (qe_var 1) (qo_none) (qo_some (qe_var 2)))))))))) (
  qss_one (qs_ret (qe_bl))) (
  qss_nil)))) (
  qss_one (qs_ret (qe_bl)))

theorem t_g_is_group {w : World} {K : Fg} {mg : Str → Option Value} {base : Heap} (hK : Says K) (M : Md K mg base) : FnP P w K mg base 4 (He.fAd K ("is_group", none)) ["people", "group"] [.sh, .sh] 0 g_is_group := by
  have c_g_are_different := t_g_are_different (w := w) hK M
  refine fnp_of (N := ["people", "group"]) (hK.def_ 11) (by decide) rfl (fun _ _ _ _ _ _ us h => by match us, h with | [_, _], _ => rfl) fun cd A outer s H E κ hr hN => ?_
  have hu0 := ru0 hr
  have hu1 := ru1 hr
  have hu2 := ru2 hr
  have hu64 := ru64 hr
  have hu65 := ru65 hr
  have hu70 := ru70 hr
  have hu80 := ru80 hr
  exact qss_one (qs_ret (qe_and (qe_isi "list" (qr_e (qe_var 1)) (He.free_ok M.kin M.glob (hK.fact 10)) (He.free_ok M.kin M.glob (hK.fact 6))) (qe_and (qe_cmp op_geQ cmg_ord (qe_len (qr_e (qe_var 1)) (He.free_ok M.kin M.glob (hK.fact 2))) (qr_e (qe_int))) (qe_one (qe_callP (ks := [.sh, .sh]) (n := 2) c_g_are_different (hr.mono (by omega)) (takes_of rfl rfl rfl rfl) (He.glo_ok M.kin M.glob (hK.fact 33)) (qa_e (qe_var 0) (qa_e (qe_var 1) (qa_nil))))))))

theorem t_g_kin {w : World} {K : Fg} {mg : Str → Option Value} {base : Heap} (hK : Says K) (M : Md K mg base) : FnP P w K mg base 5 (He.fAd K ("kin", none)) ["people", "groups"] [.sh, .sh] 5 g_kin := by
  have c_g_check_people := t_g_check_people (w := w) hK M
  have c_g_is_group := t_g_is_group (w := w) hK M
  have x_BadGroups := e_BadGroups (w := w) hK M
  refine fnp_of (N := ["people", "groups", "pairs", "index", "group", "giver", "taker"]) (hK.def_ 12) (by decide) rfl (fun _ _ _ _ _ _ us h => by match us, h with | [_, _], _ => rfl) fun cd A outer s H E κ hr hN => ?_
  have hu0 := ru0 hr
  have hu1 := ru1 hr
  have hu2 := ru2 hr
  have hu64 := ru64 hr
  have hu65 := ru65 hr
  have hu70 := ru70 hr
  have hu80 := ru80 hr
  exact qss_cons (qs_expr (qe_callP (ks := [.sh]) (n := 2) c_g_check_people (hr.mono (by omega)) (takes_of rfl rfl rfl rfl) (He.glo_ok M.kin M.glob (hK.fact 29)) (qa_e (qe_var 0) (qa_nil)))) (
  qss_cons (qs_if (qt_w (qw_or (qt_not (qt_tru (qr_e (qe_isi "list" (qr_e (qe_var 1)) (He.free_ok M.kin M.glob (hK.fact 10)) (He.free_ok M.kin M.glob (hK.fact 6)))))) (qw_or1 (qt_cmp op_gtQ cmg_ord (qe_len (qr_e (qe_var 1)) (He.free_ok M.kin M.glob (hK.fact 2))) (qr_e (qe_gint (He.int_ok M.kin M.glob (hK.fact 30)))))))) (
  qss_one (qs_raiseP1 rfl (takes_of rfl rfl rfl rfl) x_BadGroups (hr.mono (by omega)) (He.glo_ok M.kin M.glob (hK.fact 31)) (qe_neg (qe_int)))) (
  qss_nil)) (
  qss_cons (qs_own 2 hN (qf_dt)) (
  qss_cons (qs_for [3, 4] (passes_of rfl) rfl (qi_enum (qe_var 1) (hm := (He.free_ok M.kin M.glob (hK.fact 26)))) (qg_t2 rfl (qg_name 3 (by decide) hN) (qg_name 4 (by decide) hN)) (
  qss_cons (qs_if (qt_not (qt_tru (qr_e (qe_callP (ks := [.sh, .sh]) (n := 0) c_g_is_group (hr.mono (by omega)) (Takes.unl (takes_of rfl rfl rfl rfl)) (He.glo_ok M.kin M.glob (hK.fact 34)) (qa_e (qe_var 0) (qa_e (qe_var 4) (qa_nil))))))) (
  qss_one (qs_raiseP1 rfl (Takes.unl (takes_of rfl rfl rfl rfl)) x_BadGroups (hr.mono (by omega)) (He.glo_ok M.kin M.glob (hK.fact 31)) (qe_var 3))) (
  qss_nil)) (
  qss_one (qs_for [5] (passes_of rfl) rfl (qi_seq (qe_var 4)) (qg_name 5 (by decide) hN) (
  qss_one (qs_for [6] (passes_of rfl) rfl (qi_seq (qe_var 4)) (qg_name 6 (by decide) hN) (
  qss_one (qs_if (qt_cmp (op_neD hu64) cmg_ne (qe_var 5) (qr_e (qe_var 6))) (
  qss_one (qs_setI 2 hu1 (qe_bl) (qe_tup (qa_e (qe_var 5) (qa_e (qe_var 6) (qa_nil)))))) (
  qss_nil))))))))) (
  qss_one (qs_frz 2 (qs_retF (qf_sorted hu70 (qr_e (qe_f (qf_listOf (qe_var 2) (He.free_ok M.kin M.glob (hK.fact 6))))) (He.free_ok M.kin M.glob (hK.fact 12)))))))))

theorem t_g_is_pair {w : World} {K : Fg} {mg : Str → Option Value} {base : Heap} (hK : Says K) (M : Md K mg base) : FnP P w K mg base 4 (He.fAd K ("is_pair", none)) ["people", "value"] [.sh, .sh] 0 g_is_pair := by
  have c_g_are_different := t_g_are_different (w := w) hK M
  refine fnp_of (N := ["people", "value"]) (hK.def_ 13) (by decide) rfl (fun _ _ _ _ _ _ us h => by match us, h with | [_, _], _ => rfl) fun cd A outer s H E κ hr hN => ?_
  have hu0 := ru0 hr
  have hu1 := ru1 hr
  have hu2 := ru2 hr
  have hu64 := ru64 hr
  have hu65 := ru65 hr
  have hu70 := ru70 hr
  have hu80 := ru80 hr
  exact qss_one (qs_ret (qe_and (qe_isi "tuple" (qr_e (qe_var 1)) (He.free_ok M.kin M.glob (hK.fact 10)) (He.free_ok M.kin M.glob (hK.fact 7))) (qe_and (qe_cmp (op_eqD hu64) cmg_eq (qe_len (qr_e (qe_var 1)) (He.free_ok M.kin M.glob (hK.fact 2))) (qr_e (qe_int))) (qe_one (qe_callP (ks := [.sh, .sh]) (n := 2) c_g_are_different (hr.mono (by omega)) (takes_of rfl rfl rfl rfl) (He.glo_ok M.kin M.glob (hK.fact 33)) (qa_e (qe_var 0) (qa_e (qe_var 1) (qa_nil))))))))

theorem t_g_check_pairs {w : World} {K : Fg} {mg : Str → Option Value} {base : Heap} (hK : Says K) (M : Md K mg base) : FnP P w K mg base 5 (He.fAd K ("check_pairs", none)) ["people", "pairs"] [.sh, .sh] 2 g_check_pairs := by
  have c_g_is_pair := t_g_is_pair (w := w) hK M
  have x_BadPair := e_BadPair (w := w) hK M
  refine fnp_of (N := ["people", "pairs", "index", "pair"]) (hK.def_ 14) (by decide) rfl (fun _ _ _ _ _ _ us h => by match us, h with | [_, _], _ => rfl) fun cd A outer s H E κ hr hN => ?_
  have hu0 := ru0 hr
  have hu1 := ru1 hr
  have hu2 := ru2 hr
  have hu64 := ru64 hr
  have hu65 := ru65 hr
  have hu70 := ru70 hr
  have hu80 := ru80 hr
  exact qss_cons (qs_if (qt_w (qw_or (qt_not (qt_tru (qr_e (qe_isi "list" (qr_e (qe_var 1)) (He.free_ok M.kin M.glob (hK.fact 10)) (He.free_ok M.kin M.glob (hK.fact 6)))))) (qw_or1 (qt_cmp op_gtQ cmg_ord (qe_len (qr_e (qe_var 1)) (He.free_ok M.kin M.glob (hK.fact 2))) (qr_e (qe_gint (He.int_ok M.kin M.glob (hK.fact 36)))))))) (
  qss_one (qs_raiseP1 rfl (takes_of rfl rfl rfl rfl) x_BadPair (hr.mono (by omega)) (He.glo_ok M.kin M.glob (hK.fact 37)) (qe_neg (qe_int)))) (
  qss_nil)) (
  qss_one (qs_for [2, 3] (passes_of rfl) rfl (qi_enum (qe_var 1) (hm := (He.free_ok M.kin M.glob (hK.fact 26)))) (qg_t2 rfl (qg_name 2 (by decide) hN) (qg_name 3 (by decide) hN)) (
  qss_one (qs_if (qt_not (qt_tru (qr_e (qe_callP (ks := [.sh, .sh]) (n := 0) c_g_is_pair (hr.mono (by omega)) (Takes.unl (takes_of rfl rfl rfl rfl)) (He.glo_ok M.kin M.glob (hK.fact 38)) (qa_e (qe_var 0) (qa_e (qe_var 3) (qa_nil))))))) (
  qss_one (qs_raiseP1 rfl (Takes.unl (takes_of rfl rfl rfl rfl)) x_BadPair (hr.mono (by omega)) (He.glo_ok M.kin M.glob (hK.fact 37)) (qe_var 2))) (
  qss_nil)))))

theorem t_g_Partyxx_initxx_iss {w : World} {K : Fg} {mg : Str → Option Value} {base : Heap} (hK : Says K) (M : Md K mg base) : FnP P w K mg base 6 (He.fAd K ("Party", some "__init__")) ["self", "people", "barred"] [.io, .sh, .sh] 1 g_Partyxx_initxx_iss := by
  have c_g_check_people := t_g_check_people (w := w) hK M
  have c_g_check_pairs := t_g_check_pairs (w := w) hK M
  refine fnp_of (N := ["self", "people", "barred", "pair"]) (hK.def_ 15) (by decide) rfl (fun _ _ _ _ _ _ us h => by match us, h with | [_, _, _], _ => rfl) fun cd A outer s H E κ hr hN => ?_
  have hu0 := ru0 hr
  have hu1 := ru1 hr
  have hu2 := ru2 hr
  have hu64 := ru64 hr
  have hu65 := ru65 hr
  have hu70 := ru70 hr
  have hu80 := ru80 hr
  exact qss_cons (qs_expr (qe_callP (ks := [.sh]) (n := 2) c_g_check_people (hr.mono (by omega)) (takes_of rfl rfl rfl rfl) (He.glo_ok M.kin M.glob (hK.fact 29)) (qa_e (qe_var 1) (qa_nil)))) (
  qss_cons (qs_expr (qe_callP (ks := [.sh, .sh]) (n := 2) c_g_check_pairs (hr.mono (by omega)) (takes_of rfl rfl rfl rfl) (He.glo_ok M.kin M.glob (hK.fact 39)) (qa_e (qe_var 1) (qa_e (qe_var 2) (qa_nil))))) (
  qss_cons (qs_setF "Party" 0 (qe_var 1) (He.cls_ok (hK.fact 40)) (He.noat_ok (hK.fact 41))) (
  qss_one (qs_setF "Party" 0 (qe_f (qf_dcomp true hu0 rfl hN (qi_seq (qe_var 2)) (own := [("pair", 3)]) (blkOk_by (by first | rfl | kernel_rfl)) rfl (fun _ _ _ _ _ _ => qg_name 3 (by decide) hN) (fun _ _ _ _ _ _ => qts_nil) (fun _ _ _ _ _ _ => qe_var 3) (fun _ _ _ _ _ _ => qe_bl))) (He.cls_ok (hK.fact 40)) (He.noat_ok (hK.fact 42))))))

theorem t_gm_Party_of_kin {w : World} {K : Fg} {mg : Str → Option Value} {base : Heap} (hK : Says K) (M : Md K mg base) : FnCm P w K mg base 8 (gAd K "Party" "of_kin" "classmethod") "Party" ["cls", "people", "groups"] [.sh, .sh] 0 gm_Party_of_kin := by
  have c_g_Partyxx_initxx_iss := t_g_Partyxx_initxx_iss (w := w) hK M
  have c_g_kin := t_g_kin (w := w) hK M
  refine fnc_of (N := ["cls", "people", "groups"]) (hK.gdef 0) (by decide) rfl (fun _ _ _ _ _ _ us h => by match us, h with | [_, _, _], _ => rfl) fun cd A outer s H E κ hκ hr hN => ?_
  have hu0 := ru0 hr
  have hu1 := ru1 hr
  have hu2 := ru2 hr
  have hu64 := ru64 hr
  have hu65 := ru65 hr
  have hu70 := ru70 hr
  have hu80 := ru80 hr
  exact qss_one (qs_retF (qf_makeS "Party" 0 (ks := [.sh, .sh]) (n := 1) hκ (He.mkr_ok (hK.fact 43)) c_g_Partyxx_initxx_iss (hr.mono (by omega)) (takes_of rfl rfl rfl rfl) (qa_e (qe_var 1) (qa_e (qe_callP (ks := [.sh, .sh]) (n := 5) c_g_kin (hr.mono (by omega)) (takes_of rfl rfl rfl rfl) (He.glo_ok M.kin M.glob (hK.fact 35)) (qa_e (qe_var 1) (qa_e (qe_var 2) (qa_nil)))) (qa_nil)))))

theorem t_g_Party_barred {w : World} {K : Fg} {mg : Str → Option Value} {base : Heap} (hK : Says K) (M : Md K mg base) : FnP P w K mg base 2 (He.fAd K ("Party", some "barred")) ["self"] [.sh] 0 g_Party_barred := by
  refine fnp_of (N := ["self"]) (hK.def_ 16) (by decide) rfl (fun _ _ _ _ _ _ us h => by match us, h with | [_], _ => rfl) fun cd A outer s H E κ hr hN => ?_
  have hu0 := ru0 hr
  have hu1 := ru1 hr
  have hu2 := ru2 hr
  have hu64 := ru64 hr
  have hu65 := ru65 hr
  have hu70 := ru70 hr
  have hu80 := ru80 hr
  exact qss_one (qs_retF (qf_sorted hu70 (qr_e (qe_f (qf_listOf (qe_fld "Party" (qe_var 0) (He.cls_ok (hK.fact 40)) (He.noat_ok (hK.fact 42))) (He.free_ok M.kin M.glob (hK.fact 6))))) (He.free_ok M.kin M.glob (hK.fact 12))))

theorem t_gxxlaw_told {w : World} {K : Fg} {mg : Str → Option Value} {base : Heap} (hK : Says K) (M : Md K mg base) : FnP P w K mg base 9 (He.fAd K ("_law_told", none)) ["_law_people_here", "_law_groups_here", "_law_which"] [.sh, .sh, .sh] 1 gxxlaw_told := by
  have c_g_kin := t_g_kin (w := w) hK M
  have c_g_Party_barred := t_g_Party_barred (w := w) hK M
  have c_gm_Party_of_kin := t_gm_Party_of_kin (w := w) hK M
  refine fnp_of (N := ["_law_people_here", "_law_groups_here", "_law_which", "e"]) (hK.def_ 17) (by decide) rfl (fun _ _ _ _ _ _ us h => by match us, h with | [_, _, _], _ => rfl) fun cd A outer s H E κ hr hN => ?_
  have hu0 := ru0 hr
  have hu1 := ru1 hr
  have hu2 := ru2 hr
  have hu64 := ru64 hr
  have hu65 := ru65 hr
  have hu70 := ru70 hr
  have hu80 := ru80 hr
  exact qss_one (qs_tryM rfl rfl hN (takes_of rfl rfl rfl rfl) (.named ⟨rfl, by decide, .inl (He.glo_ok M.kin M.glob (hK.fact 31))⟩ (cm_cons (He.exm_ok (hK.fact 20)) (cm_cons (He.exm_ok (hK.fact 19)) (cm_cons (He.exm_ok (hK.fact 18)) (cm_nil)))) rfl rfl (fun a oe cls d pn hz hf => qss_one (qs_ret (qe_tup (qa_e (qe_str) (qa_e (qe_xf "BadGroups" 3 (hK.exc 1 (d := xd1)).2 (He.noat_ok (hK.fact 46)) hz hf) (qa_nil)))))) (.named ⟨rfl, by decide, .inl (He.glo_ok M.kin M.glob (hK.fact 25))⟩ (cm_cons (He.exm_ok (hK.fact 23)) (cm_cons (He.exm_ok (hK.fact 22)) (cm_cons (He.exm_ok (hK.fact 21)) (cm_nil)))) rfl rfl (fun a oe cls d pn hz hf => qss_one (qs_ret (qe_tup (qa_e (qe_str) (qa_e (qe_xf "BadPeople" 3 (hK.exc 0 (d := xd0)).2 (He.noat_ok (hK.fact 47)) hz hf) (qa_nil)))))) (.nil))) (fun W pn xe tk pa => qss_cons (qs_if (qt_cmp (op_eqD hu64) cmg_eq (qe_var 2) (qr_e (qe_int))) (
  qss_one (qs_ret (qe_tup (qa_e (qe_str) (qa_e (qe_callP (ks := [.sh, .sh]) (n := 5) c_g_kin (hr.mono (by omega)) tk (He.glo_ok M.kin M.glob (hK.fact 35)) (qa_e (qe_var 0) (qa_e (qe_var 1) (qa_nil)))) (qa_nil)))))) (
  qss_nil)) (
  qss_one (qs_ret (qe_tup (qa_e (qe_str) (qa_e (qe_methP0 "Party" (ks := [.sh]) (n := 0) (qe_f (qf_cmeth "Party" (ks := [.sh, .sh]) (n := 0) (cread_fp (hK.prop 0)) (cmet_fp (hK.prop 0)) c_gm_Party_of_kin (hr.mono (by omega)) (He.glo_ok M.kin M.glob (hK.fact 44)) tk (qa_e (qe_var 0) (qa_e (qe_var 1) (qa_nil))))) (He.cls_ok (hK.fact 40)) (He.meth_ok (hK.fact 45)) c_g_Party_barred (hr.mono (by omega)) tk) (qa_nil))))))))

theorem t_g_law {w : World} {K : Fg} {mg : Str → Option Value} {base : Heap} (hK : Says K) (M : Md K mg base) : FnPL P w K mg base 10 (He.fAd K ("law", none)) ["_law_script"] [.sh] 12 g_law := by
  have c_gxxlaw_draws := t_gxxlaw_draws (w := w) hK M
  have c_gxxlaw_cell := t_gxxlaw_cell (w := w) hK M
  have c_gxxlaw_people := t_gxxlaw_people (w := w) hK M
  have c_gxxlaw_groups := t_gxxlaw_groups (w := w) hK M
  have c_gxxlaw_due := t_gxxlaw_due (w := w) hK M
  have c_gxxlaw_equal := t_gxxlaw_equal (w := w) hK M 6
  have c_gxxlaw_told := t_gxxlaw_told (w := w) hK M
  refine fnp_ofL (N := ["_law_script", "_law_draws_here", "_law_people_here", "_law_groups_here", "_law_told_here", "_law_kind", "_law_letter", "_law_odd", "_law_bad", "_law_which", "_law_due_here", "_law_passed", "_law_group"]) (hK.def_ 18) (by decide) rfl (fun _ _ _ _ _ _ us h => by match us, h with | [_], _ => rfl) fun cd A outer s H E κ hr hN => ?_
  have hu0 := ru0 hr
  have hu1 := ru1 hr
  have hu2 := ru2 hr
  have hu64 := ru64 hr
  have hu65 := ru65 hr
  have hu70 := ru70 hr
  have hu80 := ru80 hr
  exact qss_cons (qs_set 1 hN (qe_callP (ks := [.sh, .sh]) (n := 4) c_gxxlaw_draws (hr.mono (by omega)) (takes_of rfl rfl rfl rfl) (He.glo_ok M.kin M.glob (hK.fact 4)) (qa_e (qe_callP (ks := [.sh, .sh]) (n := 0) c_gxxlaw_cell (hr.mono (by omega)) (takes_of rfl rfl rfl rfl) (He.glo_ok M.kin M.glob (hK.fact 3)) (qa_e (qe_var 0) (qa_e (qe_int) (qa_nil)))) (qa_e (qe_int) (qa_nil))))) (
  qss_cons (qs_set 2 hN (qe_callP (ks := [.sh, .sh]) (n := 8) c_gxxlaw_people (hr.mono (by omega)) (takes_of rfl rfl rfl rfl) (He.glo_ok M.kin M.glob (hK.fact 5)) (qa_e (qe_callP (ks := [.sh, .sh]) (n := 0) c_gxxlaw_cell (hr.mono (by omega)) (takes_of rfl rfl rfl rfl) (He.glo_ok M.kin M.glob (hK.fact 3)) (qa_e (qe_var 0) (qa_e (qe_int) (qa_nil)))) (qa_e (qe_add (qe_int) (qe_mod (qe_int1 (qr_e (qe_ix hu1 (qe_var 1) (qe_int))) (He.free_ok M.kin M.glob (hK.fact 0))) (qe_int))) (qa_nil))))) (
  qss_cons (qs_set 3 hN (qe_callP (ks := [.sh, .sh, .sh]) (n := 6) c_gxxlaw_groups (hr.mono (by omega)) (takes_of rfl rfl rfl rfl) (He.glo_ok M.kin M.glob (hK.fact 9)) (qa_e (qe_var 0) (qa_e (qe_var 2) (qa_e (qe_var 1) (qa_nil)))))) (
  qss_cons (qs_set 4 hN (qe_tupOf (qe_var 2) (He.free_ok M.kin M.glob (hK.fact 7)))) (
  qss_cons (qs_set 5 hN (qe_mod (qe_int1 (qr_e (qe_ix hu1 (qe_var 1) (qe_int))) (He.free_ok M.kin M.glob (hK.fact 0))) (qe_int))) (
  qss_cons (qs_if (qt_cmp (op_eqD hu64) cmg_eq (qe_var 5) (qr_e (qe_int))) (
  qss_one (qs_set 4 hN (qe_tup (qa_e (qe_ix hu1 (qe_var 2) (qe_int)) (qa_e (qe_ix hu1 (qe_var 2) (qe_int)) (qa_nil)))))) (
  qss_nil)) (
  qss_cons (qs_if (qt_cmp (op_eqD hu64) cmg_eq (qe_var 5) (qr_e (qe_int))) (
  qss_one (qs_set 4 hN (qe_f (qf_listOf (qe_var 2) (He.free_ok M.kin M.glob (hK.fact 6)))))) (
  qss_nil)) (
  qss_cons (qs_if (qt_cmp (op_eqD hu64) cmg_eq (qe_var 5) (qr_e (qe_int))) (
  qss_one (qs_set 4 hN (qe_tup (qa_e (qe_ix hu1 (qe_var 2) (qe_int)) (qa_nil))))) (
  qss_nil)) (
  qss_cons (qs_if (qt_cmp (op_eqD hu64) cmg_eq (qe_var 5) (qr_e (qe_int))) (
  qss_one (qs_set 4 hN (qe_tupOf (qe_f (qf_comp rfl hN (qi_seq (qe_str)) (own := [("_law_letter", 6)]) (blkOk_by (by first | rfl | kernel_rfl)) rfl (fun _ _ _ _ _ _ => qg_name 6 (by decide) hN) (fun _ _ _ _ _ _ => qts_nil) (fun _ _ _ _ _ _ => qe_add (qe_str) (qe_var 6)))) (He.free_ok M.kin M.glob (hK.fact 7))))) (
  qss_nil)) (
  qss_cons (qs_if (qt_cmp (op_eqD hu64) cmg_eq (qe_var 5) (qr_e (qe_int))) (
  qss_one (qs_set 4 hN (qe_add (qe_tupOf (qe_var 2) (He.free_ok M.kin M.glob (hK.fact 7))) (qe_tup (qa_e (qe_str) (qa_nil)))))) (
  qss_nil)) (
  qss_cons (qs_if (qt_cmp (op_eqD hu64) cmg_eq (qe_var 5) (qr_e (qe_int))) (
  qss_one (qs_set 4 hN (qe_add (qe_add (qe_tupOf (qe_alt (qe_sl (qe_var 2) (qo_none) (qo_some (qe_int))) (qe_f (qf_sl (qe_var 2) (qo_none) (qo_some (qe_int))))) (He.free_ok M.kin M.glob (hK.fact 7))) (qe_tup (qa_e (qe_non) (qa_nil)))) (qe_tupOf (qe_alt (qe_sl (qe_var 2) (qo_some (qe_int)) (qo_none)) (qe_f (qf_sl (qe_var 2) (qo_some (qe_int)) (qo_none)))) (He.free_ok M.kin M.glob (hK.fact 7)))))) (
  qss_nil)) (
  qss_cons (qs_for [7] (passes_of rfl) rfl (qi_seq (qe_f (qf_lst (qa_e (qe_tupOf (qe_var 3) (He.free_ok M.kin M.glob (hK.fact 7))) (qa_e (qe_non) (qa_e (qe_f (qf_dk)) (qa_e (qe_str) (qa_e (qe_int) (qa_nil))))))))) (qg_name 7 (by decide) hN) (
  qss_cons (qs_set 8 hN (qe_tup (qa_e (qe_str) (qa_e (qe_neg (qe_int)) (qa_nil))))) (
  qss_cons (qs_if (qt_cmp op_ltQ cmg_ord (qe_var 5) (qr_e (qe_int))) (
  qss_one (qs_set 8 hN (qe_callP (ks := [.sh, .sh]) (n := 6) c_gxxlaw_due (hr.mono (by omega)) (Takes.unl (takes_of rfl rfl rfl rfl)) (He.glo_ok M.kin M.glob (hK.fact 13)) (qa_e (qe_var 4) (qa_e (qe_f (qf_lst (qa_nil))) (qa_nil)))))) (
  qss_nil)) (
  qss_one (qs_for [9] (passes_of rfl) rfl (qi_seq (qe_f (qf_lst (qa_e (qe_int) (qa_e (qe_int) (qa_nil)))))) (qg_name 9 (by decide) hN) (
  qss_one (qs_if (qt_not (qt_tru (qr_e (qe_callP (ks := [.sh, .sh]) (n := 2) c_gxxlaw_equal (hr.mono (by omega)) (Takes.unl (Takes.unl (takes_of rfl rfl rfl rfl))) (He.glo_ok M.kin M.glob (hK.fact 15)) (qa_e (qe_callP (ks := [.sh, .sh, .sh]) (n := 1) c_gxxlaw_told (hr.mono (by omega)) (Takes.unl (Takes.unl (takes_of rfl rfl rfl rfl))) (He.glo_ok M.kin M.glob (hK.fact 48)) (qa_e (qe_var 4) (qa_e (qe_var 7) (qa_e (qe_var 9) (qa_nil))))) (qa_e (qe_var 8) (qa_nil))))))) (
  qss_one (qs_ret (qe_bl))) (
  qss_nil)))))))) (
  qss_cons (qs_set 10 hN (qe_callP (ks := [.sh, .sh]) (n := 6) c_gxxlaw_due (hr.mono (by omega)) (takes_of rfl rfl rfl rfl) (He.glo_ok M.kin M.glob (hK.fact 13)) (qa_e (qe_var 4) (qa_e (qe_var 3) (qa_nil))))) (
  qss_cons (qs_for [9] (passes_of rfl) rfl (qi_seq (qe_f (qf_lst (qa_e (qe_int) (qa_e (qe_int) (qa_e (qe_int) (qa_nil))))))) (qg_name 9 (by decide) hN) (
  qss_cons (by first | exact qs_set 11 hN (qe_f (qf_comp rfl hN (qi_seq (qe_var 3)) (own := [("_law_group", 12)]) (blkOk_by (by first | rfl | kernel_rfl)) rfl (fun _ _ _ _ _ _ => qg_name 12 (by decide) hN) (fun _ _ _ _ _ _ => qts_nil) (fun _ _ _ _ _ _ => qe_ifExp (qt_tru (qr_e (qe_isi "list" (qr_e (qe_var 12)) (He.free_ok M.kin M.glob (hK.fact 10)) (He.free_ok M.kin M.glob (hK.fact 6))))) (qe_f (qf_listOf (qe_var 12) (He.free_ok M.kin M.glob (hK.fact 6)))) (qe_var 12)))) | exact qs_shOf (qs_ownLc 11 rfl hN (qi_seq (qe_var 3)) (own := [("_law_group", 12)]) (blkOk_by (by first | rfl | kernel_rfl)) rfl (fun _ _ _ _ _ _ => qg_name 12 (by decide) hN) (fun _ _ _ _ _ _ => qts_nil) (fun _ _ _ _ _ _ => qe_ifExp (qt_tru (qr_e (qe_isi "list" (qr_e (qe_var 12)) (He.free_ok M.kin M.glob (hK.fact 10)) (He.free_ok M.kin M.glob (hK.fact 6))))) (qe_f (qf_listOf (qe_var 12) (He.free_ok M.kin M.glob (hK.fact 6)))) (qe_var 12)))) (
  qss_one (qs_if (qt_w (qw_or (qt_not (qt_tru (qr_e (qe_callP (ks := [.sh, .sh]) (n := 2) c_gxxlaw_equal (hr.mono (by omega)) (Takes.unl (takes_of rfl rfl rfl rfl)) (He.glo_ok M.kin M.glob (hK.fact 15)) (qa_e (qe_callP (ks := [.sh, .sh, .sh]) (n := 1) c_gxxlaw_told (hr.mono (by omega)) (Takes.unl (takes_of rfl rfl rfl rfl)) (He.glo_ok M.kin M.glob (hK.fact 48)) (qa_e (qe_var 4) (qa_e (qe_var 11) (qa_e (qe_var 9) (qa_nil))))) (qa_e (qe_var 10) (qa_nil))))))) (qw_or1 (qt_cmp (op_or (op_or (op_neD hu64) (op_neDk hu65)) (op_neTw hu80)) (cmg_or (cmg_or cmg_ne (cmg_dk true)) (cmg_tw true)) (qe_var 11) (qr_e (qe_var 3)))))) (
  qss_one (qs_ret (qe_bl))) (
  qss_nil))))) (
  qss_one (qs_ret (qe_bl))))))))))))))))
end
end Wk

set_option Elab.async false
set_option linter.all false
set_option maxRecDepth 100000
set_option maxHeartbeats 0
set_option pp.maxSteps 3000
/-! N06a: k06, kin: groups and their pairs -/
namespace Wk
open PySem PySem.Spec Qy
open L2 (Key)
/-- a classmethod's call -/
@[simp] theorem y_cmF (c : Str) (ks : List Kd) (n : Nat) (g : M Fl) (fa : M (List ArgR)) {ρ : Rho} {Q : D → Rho → Prop} {E : D → Rho → Prop} : Ev (gCmF c ks n g fa ρ) Q E = Ev (fa ρ) (fun as ρ => Ev (cmF c ks n g as ρ) Q E) E := y_bnd _ _
theorem gv_cm {c : Str} {ks : List Kd} {n : Nat} {g : M Fl} {as : List ArgR} {ds : List D} {P X : D → Prop} {ρ : Rho} {Q : D → Rho → Prop} {E : D → Rho → Prop} (h : Ev (g (rhoC c ks ds n)) (fun fl _ => ∃ d, fl = .rf d ∧ P d) (fun e _ => X e)) (hk : ks.contains .io = false) (hd : argDs ρ ks as = some ds) (q : ∀ d, P d → Q d ρ) (e : ∀ d, X d → E d ρ) : Ev (cmF c ks n g as ρ) Q E := by
  have ok : okA ks as = true := by unfold okA; rw [noio_ok hk]; simp
  unfold cmF
  rw [if_pos ⟨ok, hk⟩, hd]
  dsimp only
  cases hg : g (rhoC c ks ds n) with
  | ok fl ρ' =>
    rw [hg, y_ok] at h
    obtain ⟨d, rfl, p⟩ := h
    dsimp only
    rw [y_ok]
    exact q d p
  | er d ρ' =>
    rw [hg, y_er] at h
    dsimp only
    rw [y_er]
    exact e d h
  | st => rw [hg] at h; unfold Ev at h; exact h.elim
@[simp] theorem y_makeS0 (c : Str) (ks : List Kd) (n : Nat) (g : M Fl) (fa : M (List ArgR)) (d : D) (ρ : Rho) {Q : D → Rho → Prop} {E : D → Rho → Prop} : Ev (gMakeS c 0 ks n g fa (.xc d :: ρ)) Q E = Ev (gMake c ks n g fa (.xc d :: ρ)) Q E := rfl
section
variable {S : List PySem.Str}
theorem tk6 {α : Type} {l : List α} {i : Nat} (h : i < l.length) : l.take (i + 1) = l.take i ++ [l[i]] := by
  rw [List.take_succ, List.getElem?_eq_getElem h]; rfl
/-- what may stand for a group -/
def GrpV (x : D) : Prop := (∃ ys, x = .lst ys ∧ ys.length ≤ 100 ∧ ∀ y ∈ ys, Vl y) ∨ isiV "list" x = some (.bl false)
def grpB (S : List PySem.Str) (x : D) : Bool := match x with
  | .lst ys => decide (1 ≤ ys.length) && diffB S ys
  | _ => false
def strOf : D → Option PySem.Str
  | .str s => some s
  | _ => none
def namesOf (x : D) : List PySem.Str := match x with
  | .lst ys => ys.filterMap strOf
  | _ => []
theorem names_lst (T : List PySem.Str) : namesOf (lstS T) = T := by
  unfold namesOf lstS
  dsimp only
  rw [List.filterMap_map]
  have : (strOf ∘ D.str) = some := rfl
  rw [this, List.filterMap_some]
theorem grpB_ok {x : D} (h : grpB S x = true) : ∃ T : List PySem.Str, x = lstS T ∧ T ≠ [] ∧ T.Nodup ∧ ∀ t ∈ T, t ∈ S := by
  cases x <;> try (cases h; done)
  rename_i ys
  have h : (decide (1 ≤ ys.length) && diffB S ys) = true := h
  simp only [Bool.and_eq_true, decide_eq_true_eq] at h
  obtain ⟨T, rfl⟩ := diffB_all h.2
  obtain ⟨nd, sub⟩ := (diffB_str S T).1 h.2
  exact ⟨T, rfl, fun e => by subst e; simp at h, nd, sub⟩
theorem grpB_non {x : D} (h : isiV "list" x = some (.bl false)) : grpB S x = false := by
  cases x <;> first | rfl | (simp at h)
/-- the pairs of two of one group -/
def prsA (T : List PySem.Str) (a : PySem.Str) (U : List PySem.Str) : List Pr := (U.filter fun b => !decide (a = b)).map fun b => (a, b)
def prsU (T U : List PySem.Str) : List Pr := U.flatMap fun a => prsA T a T
def prsT (T : List PySem.Str) : List Pr := prsU T T
def allP (gs : List D) : List Pr := gs.flatMap fun x => prsT (namesOf x)
theorem prsA_prs {T U : List PySem.Str} {a : PySem.Str} (ma : a ∈ S) (hU : ∀ t ∈ U, t ∈ S) : Prs S (prsA T a U) := fun p m => by
  obtain ⟨b, mb, rfl⟩ := List.mem_map.1 m
  obtain ⟨mb, nb⟩ := List.mem_filter.1 mb
  exact ⟨ma, hU b mb, by simpa using nb⟩
theorem prsU_prs {T U : List PySem.Str} (hT : ∀ t ∈ T, t ∈ S) (hU : ∀ t ∈ U, t ∈ S) : Prs S (prsU T U) := fun p m => by
  obtain ⟨a, ma, m⟩ := List.mem_flatMap.1 m
  exact prsA_prs (hU a ma) hT p m
theorem fold_prs {C L : List Pr} (hC : Prs S C) (hL : Prs S L) : Prs S (L.foldl addC C) := fun p m => by
  rcases (fold_mem L C).1 m with m | m
  · exact hC p m
  · exact hL p m
theorem few_clo (l24 : S.length ≤ 24) {C : List Pr} (nd : C.Nodup) (h : Prs S C) : C.length < 16777216 := by
  have := prs_len nd h
  have : S.length * S.length ≤ 24 * 24 := Nat.mul_le_mul l24 l24
  omega
/-- which group is wrong -/
def kinDue (S : List PySem.Str) (g : D) : Option Int := match g with
  | .lst gs => if gs.length ≤ 40 then (first (fun i => !grpB S (gs.getD i .non)) gs.length).map (fun i : Nat => (i : Int)) else some (-1)
  | _ => some (-1)
def KinU (S : List PySem.Str) (gs : List D) (i : Nat) : Prop := ∀ j, j < i → (fun i => !grpB S (gs.getD i .non)) j = false
noncomputable def kinR (g : D) : D := match g with
  | .lst gs => .lst ((sortP (ded (allP gs))).map pd)
  | _ => .non
def GsV (g : D) : Prop := (∃ gs, g = .lst gs ∧ gs.length ≤ 100 ∧ ∀ x ∈ gs, GrpV x) ∨ isiV "list" g = some (.bl false)
theorem kinDue_non {g : D} (h : isiV "list" g = some (.bl false)) : kinDue S g = some (-1) := by
  cases g <;> first | rfl | (simp at h)
theorem lst_clo {C : List Pr} : listD (clo C) = some (C.map pd) := by
  show some ((C.map ky).map kTD) = _
  rw [List.map_map]; rfl
theorem kin_ok (hS : Ppl S) (l2 : 2 ≤ S.length) (l24 : S.length ≤ 24) {g : D} (hg : GsV g) : GvF [.sh, .sh] 5 g_kin [.tup (S.map D.str), g] (fun r => kinDue S g = none ∧ r = kinR g) (fun e => ∃ k : Int, kinDue S g = some k ∧ e = .obj "BadGroups" ["index"] [.int k]) := by
  have sh := hS.sh
  rcases hg with ⟨gs, rfl, lg, hx⟩ | h
  · have j : isiV "list" (.lst gs) = some (.bl true) := rfl
    simp -implicitDefEqProofs [-y_if, GvF, g_kin, rho0, rho1, List.replicate, j]
    refine gv_call1 (check_people_ok hS l2 l24) ?_ (fun _ h => h.elim)
    rintro _ rfl
    simp -implicitDefEqProofs [-y_if, j]
    rw [y_if]
    by_cases h40 : gs.length ≤ 40
    case neg =>
      have h40' : (40 : Int) < (gs.length : Nat) := by omega
      have e : kinDue S (.lst gs) = some (-1) := if_neg h40
      have ng : negD (.int 1) = some (.int (-1)) := rfl
      simp -implicitDefEqProofs [j, h40', ng, e]
    have h40' : ¬ (40 : Int) < (gs.length : Nat) := by omega
    have e0 : kinDue S (.lst gs) = (first (fun i => !grpB S (gs.getD i .non)) gs.length).map (fun i : Nat => (i : Int)) := if_pos h40
    simp -implicitDefEqProofs [-y_if, j, h40']
    refine for_inv (fun i ρ => ∃ s3 s4 s5 s6, ρ = [.sh (.tup (S.map D.str)), .sh (.lst gs), .ow none (clo ((allP (gs.take i)).foldl addC [])), s3, s4, s5, s6] ∧ Prs S ((allP (gs.take i)).foldl addC []) ∧ ((allP (gs.take i)).foldl addC []).Nodup ∧ KinU S gs i) ⟨_, _, _, _, rfl, (by intro p m; cases m), List.nodup_nil, fun j h => by omega⟩ ?_ ?_
    · rintro i d ρ hd ⟨s3, s4, s5, s6, rfl, pC, nC, hj⟩
      obtain ⟨x, hx1, rfl⟩ := enum_get hd
      have hi : i < gs.length := (List.getElem?_eq_some_iff.1 hx1).1
      have hx3 := hx x (List.mem_of_getElem? hx1)
      have hx2 : gs.getD i .non = x := by simp [List.getD, hx1]
      have eP : allP (gs.take (i + 1)) = allP (gs.take i) ++ prsT (namesOf x) := by
        unfold allP
        rw [List.take_succ, hx1, List.flatMap_append]
        simp
      rw [eP, List.foldl_append]
      have ig : Gv [.sh, .sh] 0 g_is_group [.tup (S.map D.str), x] (fun r => r = .bl (grpB S x)) NoX := by
        rcases hx3 with ⟨ys, rfl, ly, vy⟩ | n
        · have jy : isiV "list" (.lst ys) = some (.bl true) := rfl
          by_cases c : 1 ≤ ys.length
          · have c' : (1 : Int) ≤ (ys.length : Nat) := by omega
            simp -implicitDefEqProofs [Gv, g_is_group, rho0, rho1, List.replicate, jy, c']
            refine gv_call2 (are_diff S ys D.lst (.inr rfl) (by omega) vy) ?_ (fun _ h => h.elim)
            rintro _ rfl
            simp [grpB, c]
          · have c' : ¬ (1 : Int) ≤ (ys.length : Nat) := by omega
            simp -implicitDefEqProofs [Gv, g_is_group, rho0, rho1, List.replicate, jy, c']
            simp [grpB, c]
        · have e := grpB_non (S := S) n
          simp -implicitDefEqProofs [Gv, g_is_group, rho0, rho1, List.replicate, n, e]
      generalize (allP (gs.take i)).foldl addC [] = C at *
      simp -implicitDefEqProofs [-y_if]
      rw [y_if]
      simp -implicitDefEqProofs [-y_if]
      refine gv_call2 ig ?_ (fun _ h => h.elim)
      rintro _ rfl
      cases hb : grpB S x with
      | false =>
        simp -implicitDefEqProofs
        rw [e0, first_some hi (by show (!grpB S (gs.getD i .non)) = true; rw [hx2, hb]; rfl) hj]
        rfl
      | true =>
        obtain ⟨T, rfl, neT, ndT, sub⟩ := grpB_ok hb
        have hj1 : KinU S gs (i + 1) := upto (p := fun i => !grpB S (gs.getD i .non)) hj (by show (!grpB S (gs.getD i .non)) = false; rw [hx2, hb]; rfl)
        have sq : seqD (lstS T) = some (T.map D.str) := rfl
        rw [names_lst]
        clear hx1 hx2 hx3 ig hd eP
        have pF : Prs S ((prsT T).foldl addC C) := fold_prs pC (prsU_prs sub sub)
        have nF : ((prsT T).foldl addC C).Nodup := fold_nd _ _ nC
        simp -implicitDefEqProofs [sq]
        refine for_on (xs := T) (f := D.str) (fun m1 ρ => ∃ sa sb, ρ = [.sh (.tup (S.map D.str)), .sh (.lst gs), .ow none (clo ((prsU T (T.take m1)).foldl addC C)), .sh (.int (i : Nat)), .sh (lstS T), sa, sb]) ⟨_, _, rfl⟩ ?_ ?_
        · rintro m1 hm1 ρ ⟨sa, sb, rfl⟩
          have ma := sub _ (List.getElem_mem hm1)
          have eT : prsU T (T.take (m1 + 1)) = prsU T (T.take m1) ++ prsA T T[m1] T := by
            unfold prsU
            rw [tk6 hm1, List.flatMap_append]
            simp
          rw [eT, List.foldl_append]
          have pC1 : Prs S ((prsU T (T.take m1)).foldl addC C) := fold_prs pC (prsU_prs sub fun t m => sub t (List.mem_of_mem_take m))
          have nC1 : ((prsU T (T.take m1)).foldl addC C).Nodup := fold_nd _ _ nC
          generalize (prsU T (T.take m1)).foldl addC C = C1 at *
          generalize T[m1] = a at *
          simp -implicitDefEqProofs [sq]
          refine for_on (xs := T) (f := D.str) (fun m2 ρ => ∃ sb, ρ = [.sh (.tup (S.map D.str)), .sh (.lst gs), .ow none (clo ((prsA T a (T.take m2)).foldl addC C1)), .sh (.int (i : Nat)), .sh (lstS T), .sh (.str a), sb]) ⟨_, rfl⟩ ?_ ?_
          · rintro m2 hm2 ρ ⟨sb, rfl⟩
            have mb := sub _ (List.getElem_mem hm2)
            have eU : prsA T a (T.take (m2 + 1)) = prsA T a (T.take m2) ++ prsA T a [T[m2]] := by
              unfold prsA
              rw [tk6 hm2, List.filter_append, List.map_append]
            rw [eU, List.foldl_append]
            have pC2 : Prs S ((prsA T a (T.take m2)).foldl addC C1) := fold_prs pC1 (prsA_prs ma fun t m => sub t (List.mem_of_mem_take m))
            have nC2 : ((prsA T a (T.take m2)).foldl addC C1).Nodup := fold_nd _ _ nC1
            generalize (prsA T a (T.take m2)).foldl addC C1 = C2 at *
            generalize T[m2] = b at *
            have ne := ne_sh (sh a ma) (sh b mb)
            have st := st_clo (p := (a, b)) (few_clo l24 nC2 pC2)
            unfold pd at st
            dsimp only at st
            by_cases e : a = b
            · subst e
              have z : prsA T a [a] = [] := by simp [prsA]
              rw [z]
              simp -implicitDefEqProofs [ne]
            · have z : prsA T a [b] = [(a, b)] := by simp [prsA, e]
              rw [z]
              simp -implicitDefEqProofs [ne, e, st]
          · rintro ρ ⟨sb, rfl⟩
            rw [List.take_length]
            simp -implicitDefEqProofs
        · rintro ρ ⟨sa, sb, rfl⟩
          rw [List.take_length]
          simp -implicitDefEqProofs
          exact ⟨rfl, pF, nF, hj1⟩
    · rintro ρ ⟨s3, s4, s5, s6, rfl, pC, nC, hj⟩
      rw [enum_len] at hj pC nC ⊢
      rw [List.take_length] at pC nC ⊢
      have so := sort_prs (P := ded (allP gs)) (pC.sh hS) (by have := few_clo l24 nC pC; unfold ded; omega)
      have lc := lst_clo (C := ded (allP gs))
      unfold ded at so lc
      simp -implicitDefEqProofs [so, lc]
      rw [e0, first_none hj]
      exact ⟨rfl, rfl⟩
  · have e := kinDue_non (S := S) h
    have ng : negD (.int 1) = some (.int (-1)) := rfl
    simp -implicitDefEqProofs [-y_if, GvF, g_kin, rho0, rho1, List.replicate]
    refine gv_call1 (check_people_ok hS l2 l24) ?_ (fun _ h => h.elim)
    rintro _ rfl
    simp -implicitDefEqProofs [h, e, ng]
theorem kin_bad {d g : D} {k : Int} (hd : PpV d) (hk : dueD d = .int k) : GvF [.sh, .sh] 5 g_kin [d, g] (fun _ => False) (fun e => e = .obj "BadPeople" ["index"] [.int k]) := by
  simp -implicitDefEqProofs [-y_if, GvF, g_kin, rho0, rho1, List.replicate]
  refine gv_call1 (check_people hd) ?_ ?_
  · rintro _ ⟨_, z⟩
    rw [hk] at z; cases z
  · rintro e ⟨k', z, rfl⟩
    rw [hk] at z; cases z
    rfl
end
end Wk

set_option Elab.async false
set_option linter.all false
set_option maxRecDepth 100000
set_option maxHeartbeats 0
set_option pp.maxSteps 3000
/-! N06b: k06, what the law finds due -/
namespace Wk
open PySem PySem.Spec Qy
open L2 (Key)
section
variable {S : List PySem.Str}
/-- an item of what is passed for people -/
def NmV (x : D) : Prop := x = .non ∨ ∃ s : PySem.Str, x = .str s ∧ Sh 16777216 s ∧ nameB s = decide (s.length ≤ 8)
def PplV (d : D) : Prop := (∃ xs, d = .tup xs ∧ xs.length ≤ 100 ∧ ∀ x ∈ xs, NmV x) ∨ isiV "tuple" d = some (.bl false)
theorem NmV.vl {x : D} (h : NmV x) : Vl x := by
  rcases h with rfl | ⟨s, rfl, hs, _⟩
  · exact .inr rfl
  · exact vl_str hs (Nat.le_refl _)
theorem PplV.pp {d : D} (h : PplV d) : PpV d := by
  rcases h with ⟨xs, rfl, l, hx⟩ | h
  · exact .inl ⟨xs, rfl, by omega, fun x m => (hx x m).vl⟩
  · exact .inr h
theorem ppl_v (hS : Ppl S) (l24 : S.length ≤ 24) : PplV (.tup (S.map D.str)) := .inl ⟨_, rfl, by simp; omega, fun x m => by
  obtain ⟨s, ms, rfl⟩ := List.mem_map.1 m
  have h := hS.2 s ms
  have l := (sh_name h).1
  exact .inr ⟨s, rfl, hS.sh s ms, by rw [h, decide_eq_true l]⟩⟩
noncomputable def dueK (S : List PySem.Str) (g : D) : D := match kinDue S g with
  | some k => .tup [.str "refused", .int k]
  | none => .tup [.str "told", kinR g]
theorem due_of {r : D} {g : D} {k : Int} (h : kinDue S g = some k) : dueK S g = .tup [.str "refused", .int k] := by unfold dueK; rw [h]
theorem due_on {g : D} (h : kinDue S g = none) : dueK S g = .tup [.str "told", kinR g] := by unfold dueK; rw [h]
def BadU (xs : List D) (i : Nat) : Prop := ∀ j, j < i → badI nameD xs j = false
def BadG (S : List PySem.Str) (ys : List D) (i : Nat) : Prop := ∀ j, j < i → badI (persB S) ys j = false
/-- the people: a step of the law's look -/
theorem look {xs : List D} {g : D} {i : Nat} (lx : xs.length ≤ 100) (hi : i < xs.length) (hx : NmV xs[i]) (hj : BadU xs i) {Q : Fl → Rho → Prop} {s3 s4 s5 s6 s7 : Slot}
    (bad : badI nameD xs i = true → Q (.rt (.tup [.str "people", .int (i : Nat)])) [.sh (.tup xs), .sh g, .sh (.int (i : Nat)), s3, s4, s5, s6, s7]) (good : badI nameD xs i = false → Q .nx [.sh (.tup xs), .sh g, .sh (.int (i : Nat)), s3, s4, s5, s6, s7]) :
    Ev ((gIf (gOrT (gNotT (gTru (gC1 (isiV "str") (gIx (gVar 0) (gVar 2))))) (gOrT (gCmpT gtD (gC1 lenV (gIx (gVar 0) (gVar 2))) (ret (.int 8))) (gCmpT inD (gIx (gVar 0) (gVar 2)) (alt (gSl slD (gVar 0) (ret none) (gPart (gVar 2))) (gSl slL (gVar 0) (ret none) (gPart (gVar 2))))))) (
  gRet (gTup (gArg (ret (.str "people")) (gArg (gVar 2) (gNil))))) (
  gSkip)) [.sh (.tup xs), .sh g, .sh (.int (i : Nat)), s3, s4, s5, s6, s7]) Q (fun _ _ => False) := by
  have hx2 : xs.getD i .non = xs[i] := by simp [List.getD, hi]
  have ix : ixD (.tup xs) (.int (i : Int)) = some xs[i] := ix_tup (List.getElem?_eq_getElem hi)
  have hb : badI nameD xs i = (!nameD xs[i] || (xs.take i).any fun d => deq d xs[i]) := by unfold badI; rw [hx2]
  have fl := take_flat (p := nameD) (fun _ => name_flat) (Nat.le_of_lt hi) hj
  have sl := slT xs i
  generalize xs[i] = x at *
  rcases hx with rfl | ⟨s, rfl, hs, hn⟩
  · have nn : nameD .non = false := rfl
    rw [nn] at hb
    simp -implicitDefEqProofs [ix]
    exact bad (by rw [hb]; rfl)
  · have js : isiV "str" (.str s) = some (.bl true) := rfl
    have ls := len_str (s := s) hs.1
    have nd : nameD (.str s) = nameB s := rfl
    rw [nd, hn] at hb
    by_cases c : s.length ≤ 8
    · have c' : ¬ (8 : Int) < (s.length : Nat) := by omega
      have hin : inD (.str s) (.tup (xs.take i)) = some ((xs.take i).any fun d => deq d (.str s)) := in_seq (by rfl) fl
      rw [decide_eq_true c, Bool.not_true, Bool.false_or] at hb
      cases a : (xs.take i).any fun d => deq d (.str s) with
      | true =>
        rw [a] at hin hb
        simp -implicitDefEqProofs [-List.map_take, ix, js, ls, c', sl, hin]
        exact bad hb
      | false =>
        rw [a] at hin hb
        simp -implicitDefEqProofs [-List.map_take, ix, js, ls, c', sl, hin]
        exact good hb
    · have c' : (8 : Int) < (s.length : Nat) := by omega
      rw [decide_eq_false c] at hb
      simp -implicitDefEqProofs [ix, js, ls, c']
      exact bad (by rw [hb]; rfl)
theorem law_due_bad {d g : D} {k : Int} (hd : PplV d) (hk : dueD d = .int k) : Gv [.sh, .sh] 6 gxxlaw_due [d, g] (fun r => r = .tup [.str "people", .int k]) NoX := by
  have ng : negD (.int 1) = some (.int (-1)) := rfl
  rcases hd with ⟨xs, rfl, lx, hx⟩ | h
  · have jt : isiV "tuple" (.tup xs) = some (.bl true) := rfl
    by_cases c : 2 ≤ xs.length ∧ xs.length ≤ 24
    · have c1 : ¬ (xs.length : Int) < 2 := by omega
      have c2 : ¬ (24 : Int) < (xs.length : Nat) := by omega
      have e0 : dueD (.tup xs) = (match first (badI nameD xs) xs.length with | some i => .int (i : Nat) | none => .non) := if_pos c
      have hr := rng1_i (j := (xs.length : Int)) (by omega) (by omega)
      simp -implicitDefEqProofs [-y_if, Gv, gxxlaw_due, rho0, rho1, List.replicate]
      rw [y_if]
      simp -implicitDefEqProofs [-y_if, jt, c1, c2, hr]
      refine for_inv (fun i ρ => ∃ s2, ρ = [.sh (.tup xs), .sh g, s2, .no, .no, .no, .no, .no] ∧ BadU xs i) ⟨_, rfl, fun j h => by omega⟩ ?_ ?_
      · rintro i d ρ hd ⟨s2, rfl, hj⟩
        obtain ⟨rfl, hi⟩ := rng_get hd
        have hi : i < xs.length := by omega
        rw [Int.zero_add]
        simp -implicitDefEqProofs [-y_if]
        refine look lx hi (hx _ (List.getElem_mem hi)) hj (fun b => ?_) (fun b => ?_)
        · rw [e0, first_some hi b hj] at hk
          cases hk
          simp -implicitDefEqProofs
        · simp -implicitDefEqProofs
          exact upto hj b
      · rintro ρ ⟨s2, rfl, hj⟩
        rw [e0, first_none (by simpa [rng_nat, BadU] using hj)] at hk
        cases hk
    · have e0 : dueD (.tup xs) = .int (-1) := if_neg c
      rw [e0] at hk
      cases hk
      simp -implicitDefEqProofs [-y_if, Gv, gxxlaw_due, rho0, rho1, List.replicate]
      rw [y_if]
      by_cases c1 : xs.length < 2
      · have c1' : (xs.length : Int) < 2 := by omega
        simp -implicitDefEqProofs [jt, c1', ng]
      · have c1' : ¬ (xs.length : Int) < 2 := by omega
        have c2' : (24 : Int) < (xs.length : Nat) := by omega
        simp -implicitDefEqProofs [jt, c1', c2', ng]
  · have e : dueD d = .int (-1) := by cases d <;> first | rfl | (simp at h)
    rw [e] at hk
    cases hk
    simp -implicitDefEqProofs [Gv, gxxlaw_due, rho0, rho1, List.replicate, h, ng]
theorem law_due (hS : Ppl S) (l2 : 2 ≤ S.length) (l24 : S.length ≤ 24) {g : D} (hg : GsV g) : Gv [.sh, .sh] 6 gxxlaw_due [.tup (S.map D.str), g] (fun r => r = dueK S g) NoX := by
  have sh := hS.sh
  have ng : negD (.int 1) = some (.int (-1)) := rfl
  have jt : isiV "tuple" (.tup (S.map D.str)) = some (.bl true) := rfl
  have hr := rng1_i (j := (S.length : Int)) (by omega) (by omega)
  have c1 : ¬ (S.length : Int) < 2 := by omega
  have c2 : ¬ (24 : Int) < (S.length : Nat) := by omega
  have ls : lenV (.tup (S.map D.str)) = some (.int (S.length : Nat)) := by
    have : lenV (.tup (S.map D.str)) = some (.int ((S.map D.str).length : Nat)) := rfl
    rw [this, List.length_map]
  obtain hV | hV := ppl_v hS l24
  case inr => cases hV
  obtain ⟨xs, e, lx, hx⟩ := hV
  have ok := dueD_ok hS l2 l24
  simp -implicitDefEqProofs [-y_if, Gv, gxxlaw_due, rho0, rho1, List.replicate]
  rw [y_if]
  simp -implicitDefEqProofs [-y_if, jt, c1, c2, hr, ls]
  refine for_inv (fun i ρ => ∃ s2, ρ = [.sh (.tup (S.map D.str)), .sh g, s2, .no, .no, .no, .no, .no] ∧ BadU (S.map D.str) i) ⟨_, rfl, fun j h => by omega⟩ ?_ ?_
  · rintro i d ρ hd ⟨s2, rfl, hj⟩
    obtain ⟨rfl, hi⟩ := rng_get hd
    have hi : i < (S.map D.str).length := by rw [List.length_map]; omega
    rw [Int.zero_add]
    simp -implicitDefEqProofs [-y_if]
    refine look (by simp; omega) hi (by cases e; exact hx _ (List.getElem_mem hi)) hj (fun b => ?_) (fun b => ?_)
    · have e0 : dueD (.tup (S.map D.str)) = (match first (badI nameD (S.map D.str)) (S.map D.str).length with | some i => .int (i : Nat) | none => .non) := if_pos (by simp; omega)
      rw [e0, first_some hi b hj] at ok
      cases ok
    · simp -implicitDefEqProofs
      exact upto hj b
  rintro ρ ⟨s2, rfl, -⟩
  clear e hx lx xs
  simp -implicitDefEqProofs [-y_if]
  rw [y_if]
  rcases hg with ⟨gs, rfl, lg, hx⟩ | h
  case inr =>
    have e := kinDue_non (S := S) h
    simp -implicitDefEqProofs [h, ng]
    rw [due_of (r := .non) e]
  have jl : isiV "list" (.lst gs) = some (.bl true) := rfl
  have lg' : lenV (.lst gs) = some (.int (gs.length : Nat)) := rfl
  by_cases h40 : gs.length ≤ 40
  case neg =>
    have h40' : (40 : Int) < (gs.length : Nat) := by omega
    have e : kinDue S (.lst gs) = some (-1) := if_neg h40
    simp -implicitDefEqProofs [jl, h40', ng]
    rw [due_of (r := .non) e]
  have h40' : ¬ (40 : Int) < (gs.length : Nat) := by omega
  have hrg := rng1_i (j := (gs.length : Int)) (by omega) (by omega)
  have e0 : kinDue S (.lst gs) = (first (fun i => !grpB S (gs.getD i .non)) gs.length).map (fun i : Nat => (i : Int)) := if_pos h40
  simp -implicitDefEqProofs [-y_if, jl, h40', hrg]
  refine for_inv (fun i ρ => ∃ s2 s4 s5 s6 s7, ρ = [.sh (.tup (S.map D.str)), .sh (.lst gs), s2, .ow none (clo ((allP (gs.take i)).foldl addC [])), s4, s5, s6, s7] ∧ Prs S ((allP (gs.take i)).foldl addC []) ∧ ((allP (gs.take i)).foldl addC []).Nodup ∧ KinU S gs i) ⟨_, _, _, _, _, rfl, (by intro p m; cases m), List.nodup_nil, fun j h => by omega⟩ ?_ ?_
  · rintro i d ρ hd ⟨s2, s4, s5, s6, s7, rfl, pC, nC, hj⟩
    obtain ⟨rfl, hi⟩ := rng_get hd
    have hi : i < gs.length := by omega
    rw [Int.zero_add]
    have hx3 := hx _ (List.getElem_mem hi)
    have hx2 : gs.getD i .non = gs[i] := by simp [List.getD, hi]
    have ix : ixD (.lst gs) (.int (i : Int)) = some gs[i] := ix_lst (List.getElem?_eq_getElem hi)
    have eP : allP (gs.take (i + 1)) = allP (gs.take i) ++ prsT (namesOf gs[i]) := by
      unfold allP
      rw [tk6 hi, List.flatMap_append]
      simp
    rw [eP, List.foldl_append]
    have bad : grpB S gs[i] = false → dueK S (.lst gs) = .tup [.str "refused", .int (i : Nat)] := fun hb => due_of (r := .non) (by
      rw [e0, first_some hi (by show (!grpB S (gs.getD i .non)) = true; rw [hx2, hb]; rfl) hj]; rfl)
    have good : grpB S gs[i] = true → KinU S gs (i + 1) := fun hb => upto (p := fun i => !grpB S (gs.getD i .non)) hj (by show (!grpB S (gs.getD i .non)) = false; rw [hx2, hb]; rfl)
    generalize gs[i] = x at *
    generalize (allP (gs.take i)).foldl addC [] = C at *
    simp -implicitDefEqProofs [-y_if, ix]
    rw [y_if]
    rcases hx3 with ⟨ys, rfl, ly, vy⟩ | n
    case inr =>
      simp -implicitDefEqProofs [n]
      rw [bad (grpB_non n)]
    have jy : isiV "list" (.lst ys) = some (.bl true) := rfl
    have ly' : lenV (.lst ys) = some (.int (ys.length : Nat)) := rfl
    by_cases c : ys.length = 0
    · have cz : ys = [] := List.eq_nil_of_length_eq_zero c
      subst cz
      simp -implicitDefEqProofs [jy]
      rw [bad rfl]
    have c' : ¬ (ys.length : Int) = 0 := by omega
    have hry := rng1_i (j := (ys.length : Int)) (by omega) (by omega)
    have bd : diffB S ys = false → dueK S (.lst gs) = .tup [.str "refused", .int (i : Nat)] := fun e => bad (by
      show (decide (1 ≤ ys.length) && diffB S ys) = false
      rw [e, Bool.and_false])
    have cn : ¬ ys = [] := fun z => c (by rw [z]; rfl)
    simp -implicitDefEqProofs [-y_if, jy, cn, hry]
    refine for_inv (fun j ρ => ∃ s5, ρ = [.sh (.tup (S.map D.str)), .sh (.lst gs), .sh (.int (i : Nat)), .ow none (clo C), .sh (.lst ys), s5, s6, s7] ∧ BadG S ys j) ⟨_, rfl, fun j h => by omega⟩ ?_ ?_
    · rintro m d ρ hd ⟨s5, rfl, hm⟩
      obtain ⟨rfl, hi2⟩ := rng_get hd
      have hi2 : m < ys.length := by omega
      rw [Int.zero_add]
      have hy3 := vy _ (List.getElem_mem hi2)
      have hy2 : ys.getD m .non = ys[m] := by simp [List.getD, hi2]
      have iy : ixD (.lst ys) (.int (m : Int)) = some ys[m] := ix_lst (List.getElem?_eq_getElem hi2)
      have sl := slLst ys m
      have hb : badI (persB S) ys m = (!persB S ys[m] || (ys.take m).any fun d => deq d ys[m]) := by unfold badI; rw [hy2]
      have fl := take_flat (p := persB S) (fun _ => pers_flat) (Nat.le_of_lt hi2) hm
      have rb : badI (persB S) ys m = true → dueK S (.lst gs) = .tup [.str "refused", .int (i : Nat)] := fun b => bd (by unfold diffB; rw [first_some hi2 b hm]; rfl)
      have rg : badI (persB S) ys m = false → BadG S ys (m + 1) := fun b => upto hm b
      generalize ys[m] = y at *
      simp -implicitDefEqProofs [-y_if]
      rw [y_if]
      rcases hy3 with ⟨s, rfl, hs⟩ | ny
      case inr =>
        rw [(non_str ny).2 S] at hb
        simp -implicitDefEqProofs [iy, ny]
        rw [rb (by rw [hb]; rfl)]
      have js : isiV "str" (.str s) = some (.bl true) := rfl
      have ni := ni_strT s S
      have ps : persB S (.str s) = decide (s ∈ S) := rfl
      rw [ps] at hb
      by_cases ms : s ∈ S
      · rw [decide_eq_true ms] at ni hb
        have hin : inD (.str s) (.lst (ys.take m)) = some ((ys.take m).any fun d => deq d (.str s)) := in_seqL (by rfl) fl
        rw [Bool.not_true, Bool.false_or] at hb
        cases a : (ys.take m).any fun d => deq d (.str s) with
        | true =>
          rw [a] at hin hb
          simp -implicitDefEqProofs [-List.map_take, iy, js, ni, sl, hin]
          rw [rb hb]
        | false =>
          rw [a] at hin hb
          simp -implicitDefEqProofs [-List.map_take, iy, js, ni, sl, hin]
          exact rg hb
      · rw [decide_eq_false ms] at ni hb
        simp -implicitDefEqProofs [iy, js, ni]
        rw [rb (by rw [hb]; rfl)]
    · rintro ρ ⟨s5, rfl, hm⟩
      have hm : ∀ j, j < ys.length → badI (persB S) ys j = false := fun j h => hm j (by simpa [rng_nat] using h)
      have df : diffB S ys = true := by unfold diffB; rw [first_none hm]; rfl
      have hb : grpB S (.lst ys) = true := by
        show (decide (1 ≤ ys.length) && diffB S ys) = true
        rw [df, decide_eq_true (by omega)]; rfl
      have hj1 := good hb
      obtain ⟨T, e, neT, ndT, sub⟩ := grpB_ok hb
      rw [e] at *
      have sq : seqD (lstS T) = some (T.map D.str) := rfl
      rw [names_lst]
      have pF : Prs S ((prsT T).foldl addC C) := fold_prs pC (prsU_prs sub sub)
      have nF : ((prsT T).foldl addC C).Nodup := fold_nd _ _ nC
      clear hb hm df bad bd good ix hx2 eP hj vy ly' jy hry c c' cn e ly
      simp -implicitDefEqProofs [sq]
      refine for_on (xs := T) (f := D.str) (fun m1 ρ => ∃ sa sb, ρ = [.sh (.tup (S.map D.str)), .sh (.lst gs), .sh (.int (i : Nat)), .ow none (clo ((prsU T (T.take m1)).foldl addC C)), .sh (lstS T), s5, sa, sb]) ⟨_, _, rfl⟩ ?_ ?_
      · rintro m1 hm1 ρ ⟨sa, sb, rfl⟩
        have ma := sub _ (List.getElem_mem hm1)
        have eT : prsU T (T.take (m1 + 1)) = prsU T (T.take m1) ++ prsA T T[m1] T := by
          unfold prsU
          rw [tk6 hm1, List.flatMap_append]
          simp
        rw [eT, List.foldl_append]
        have pC1 : Prs S ((prsU T (T.take m1)).foldl addC C) := fold_prs pC (prsU_prs sub fun t m => sub t (List.mem_of_mem_take m))
        have nC1 : ((prsU T (T.take m1)).foldl addC C).Nodup := fold_nd _ _ nC
        generalize (prsU T (T.take m1)).foldl addC C = C1 at *
        generalize T[m1] = a at *
        simp -implicitDefEqProofs [sq]
        refine for_on (xs := T) (f := D.str) (fun m2 ρ => ∃ sb, ρ = [.sh (.tup (S.map D.str)), .sh (.lst gs), .sh (.int (i : Nat)), .ow none (clo ((prsA T a (T.take m2)).foldl addC C1)), .sh (lstS T), s5, .sh (.str a), sb]) ⟨_, rfl⟩ ?_ ?_
        · rintro m2 hm2 ρ ⟨sb, rfl⟩
          have mb := sub _ (List.getElem_mem hm2)
          have eU : prsA T a (T.take (m2 + 1)) = prsA T a (T.take m2) ++ prsA T a [T[m2]] := by
            unfold prsA
            rw [tk6 hm2, List.filter_append, List.map_append]
          rw [eU, List.foldl_append]
          have pC2 : Prs S ((prsA T a (T.take m2)).foldl addC C1) := fold_prs pC1 (prsA_prs ma fun t m => sub t (List.mem_of_mem_take m))
          have nC2 : ((prsA T a (T.take m2)).foldl addC C1).Nodup := fold_nd _ _ nC1
          generalize (prsA T a (T.take m2)).foldl addC C1 = C2 at *
          generalize T[m2] = b at *
          have ne := ne_sh (sh a ma) (sh b mb)
          have st := st_clo (p := (a, b)) (few_clo l24 nC2 pC2)
          unfold pd at st
          dsimp only at st
          by_cases e : a = b
          · subst e
            have z : prsA T a [a] = [] := by simp [prsA]
            rw [z]
            simp -implicitDefEqProofs [ne]
          · have z : prsA T a [b] = [(a, b)] := by simp [prsA, e]
            rw [z]
            simp -implicitDefEqProofs [ne, e, st]
        · rintro ρ ⟨sb, rfl⟩
          rw [List.take_length]
          simp -implicitDefEqProofs
      · rintro ρ ⟨sa, sb, rfl⟩
        rw [List.take_length]
        simp -implicitDefEqProofs
        exact ⟨rfl, pF, nF, hj1⟩
  · rintro ρ ⟨s2, s4, s5, s6, s7, rfl, pC, nC, hj⟩
    have el : (rng 0 (gs.length : Int)).length = gs.length := by rw [rng_nat]; simp
    rw [el] at hj pC nC ⊢
    rw [List.take_length] at pC nC ⊢
    have so := sort_prs (P := ded (allP gs)) (pC.sh hS) (by have := few_clo l24 nC pC; unfold ded; omega)
    have lc := lst_clo (C := ded (allP gs))
    unfold ded at so lc
    simp -implicitDefEqProofs [so, lc]
    rw [due_on (by rw [e0, first_none hj]; rfl)]
    rfl
end
end Wk

set_option Elab.async false
set_option linter.all false
set_option maxRecDepth 100000
set_option maxHeartbeats 0
set_option pp.maxSteps 3000
/-! N06: k06, kin -/
namespace Wk
open PySem PySem.Spec Qy
open L2 (Key)
noncomputable def tl06 : M Fl := 
  gSeq (gFor (gSeqI (gLst (gArg (gTupOf (gVar 3)) (gArg (ret .non) (gArg (ret (.dk [] [])) (gArg (ret (.str "")) (gArg (ret (.int 0)) (gNil)))))))) (gN 7) (
  gSeq (gSet 8 (gTup (gArg (ret (.str "refused")) (gArg (bnd (ret (.int 1)) fun x => ofO (negD x)) (gNil))))) (
  gSeq (gIf (gCmpT ltD (gVar 5) (ret (.int 6))) (
  gSet 8 (gCall [.sh, .sh] 6 gxxlaw_due (gArg (gVar 4) (gArg (gLst (gNil)) (gNil))))) (
  gSkip)) (
  gFor (gSeqI (gLst (gArg (ret (.int 0)) (gArg (ret (.int 1)) (gNil))))) (gN 9) (
  gIf (gNotT (gTru (gCall [.sh, .sh] 2 (gxxlaw_equal 6) (gArg (gCall [.sh, .sh, .sh] 1 gxxlaw_told (gArg (gVar 4) (gArg (gVar 7) (gArg (gVar 9) (gNil))))) (gArg (gVar 8) (gNil)))))) (
  gRet (ret (.bl false))) (
  gSkip)))))) (
  gSeq (gSet 10 (gCall [.sh, .sh] 6 gxxlaw_due (gArg (gVar 4) (gArg (gVar 3) (gNil))))) (
  gSeq (gFor (gSeqI (gLst (gArg (ret (.int 0)) (gArg (ret (.int 1)) (gArg (ret (.int 0)) (gNil)))))) (gN 9) (
  gSeq (gSet 11 (gComp [12] (gSeqI (gVar 3)) (gN 12) (ret true) (gIf (gTru (gC1 (isiV "list") (gVar 12))) (gListOf (gVar 12)) (gVar 12)))) (
  gIf (gOrT (gNotT (gTru (gCall [.sh, .sh] 2 (gxxlaw_equal 6) (gArg (gCall [.sh, .sh, .sh] 1 gxxlaw_told (gArg (gVar 4) (gArg (gVar 11) (gArg (gVar 9) (gNil))))) (gArg (gVar 10) (gNil)))))) (gCmpT (orC (orC neD (eqDk true)) (eqTw true)) (gVar 11) (gVar 3))) (
  gRet (ret (.bl false))) (
  gSkip)))) (
  gRet (ret (.bl true)))))
noncomputable def hd06 : M Fl := 
  gSeq (gSet 1 (gCall [.sh, .sh] 4 gxxlaw_draws (gArg (gCall [.sh, .sh] 0 gxxlaw_cell (gArg (gVar 0) (gArg (ret (.int 0)) (gNil)))) (gArg (ret (.int 8)) (gNil))))) (
  gSeq (gSet 2 (gCall [.sh, .sh] 8 gxxlaw_people (gArg (gCall [.sh, .sh] 0 gxxlaw_cell (gArg (gVar 0) (gArg (ret (.int 1)) (gNil)))) (gArg (gBin addD (ret (.int 2)) (gBin modD (gC1 intV (gIx (gVar 1) (ret (.int 6)))) (ret (.int 9)))) (gNil))))) (
  gSeq (gSet 3 (gCall [.sh, .sh, .sh] 6 gxxlaw_groups (gArg (gVar 0) (gArg (gVar 2) (gArg (gVar 1) (gNil)))))) (
  gSeq (gSet 4 (gTupOf (gVar 2))) (
  gSeq (gSet 5 (gBin modD (gC1 intV (gIx (gVar 1) (ret (.int 7)))) (ret (.int 18)))) (
  gSeq (gIf (gCmpT eqD (gVar 5) (ret (.int 0))) (
  gSet 4 (gTup (gArg (gIx (gVar 2) (ret (.int 0))) (gArg (gIx (gVar 2) (ret (.int 0))) (gNil))))) (
  gSkip)) (
  gSeq (gIf (gCmpT eqD (gVar 5) (ret (.int 1))) (
  gSet 4 (gListOf (gVar 2))) (
  gSkip)) (
  gSeq (gIf (gCmpT eqD (gVar 5) (ret (.int 2))) (
  gSet 4 (gTup (gArg (gIx (gVar 2) (ret (.int 0))) (gNil)))) (
  gSkip)) (
  gSeq (gIf (gCmpT eqD (gVar 5) (ret (.int 3))) (
  gSet 4 (gTupOf (gComp [6] (gSeqI (ret (.str "abcdefghijklmnopqrstuvwxy"))) (gN 6) (ret true) (gBin addD (ret (.str "yyyyyyy")) (gVar 6))))) (
  gSkip)) (
  gSeq (gIf (gCmpT eqD (gVar 5) (ret (.int 4))) (
  gSet 4 (gBin addD (gTupOf (gVar 2)) (gTup (gArg (ret (.str "abcdefghi")) (gNil))))) (
  gSkip)) (
  gSeq (gIf (gCmpT eqD (gVar 5) (ret (.int 5))) (
  gSet 4 (gBin addD (gBin addD (gTupOf (alt (gSl slD (gVar 2) (ret none) (gPart (ret (.int 1)))) (gSl slL (gVar 2) (ret none) (gPart (ret (.int 1)))))) (gTup (gArg (ret .non) (gNil)))) (gTupOf (alt (gSl slD (gVar 2) (gPart (ret (.int 1))) (ret none)) (gSl slL (gVar 2) (gPart (ret (.int 1))) (ret none)))))) (
  gSkip)) (
  tl06)))))))))))
theorem law_eq : g_law = hd06 := rfl
section
variable {S : List PySem.Str}
theorem kin_prs {g : D} (h : kinDue S g = none) : ∃ gs, g = .lst gs ∧ Prs S (allP gs) := by
  cases g <;> try (cases h; done)
  rename_i gs
  have h : (if gs.length ≤ 40 then (first (fun i => !grpB S (gs.getD i .non)) gs.length).map (fun i : Nat => (i : Int)) else some (-1)) = none := h
  split at h
  case isFalse => cases h
  have f := first_none' (Option.map_eq_none_iff.1 h)
  refine ⟨gs, rfl, fun p m => ?_⟩
  obtain ⟨x, mx, m⟩ := List.mem_flatMap.1 m
  obtain ⟨i, hi, rfl⟩ := List.mem_iff_getElem.1 mx
  have e := f i hi
  have hx2 : gs.getD i .non = gs[i] := by simp [List.getD, hi]
  rw [hx2] at e
  obtain ⟨T, e2, _, _, sub⟩ := grpB_ok (S := S) (x := gs[i]) (by simpa using e)
  rw [e2, names_lst] at m
  exact prsU_prs sub sub p m
theorem ded_sort (P : List Pr) : sortP (ded (sortP (ded P))) = sortP (ded P) := by
  have pm : (sortP (ded P)).Perm (ded P) := List.mergeSort_perm _ _
  have nd : (sortP (ded P)).Nodup := pm.nodup_iff.2 (ded_nd P)
  exact sortP_perm ((ded_perm nd).trans pm)
theorem of_kin (hS : Ppl S) (l2 : 2 ≤ S.length) (l24 : S.length ≤ 24) {g : D} (hg : GsV g) : Ev (gm_Party_of_kin (rhoC "Party" [.sh, .sh] [.tup (S.map D.str), g] 0)) (fun fl _ => ∃ d, fl = .rf d ∧ kinDue S g = none ∧ ∃ gs, g = .lst gs ∧ Prs S (allP gs) ∧ d = party (.tup (S.map D.str)) (clo (ded (sortP (ded (allP gs)))))) (fun e _ => ∃ k : Int, kinDue S g = some k ∧ e = .obj "BadGroups" ["index"] [.int k]) := by
  simp -implicitDefEqProofs [gm_Party_of_kin, rhoC, rho0, rho1, List.replicate]
  refine gv_call2 (kin_ok hS l2 l24 hg).gv ?_ (fun e h => h)
  rintro _ ⟨hn, rfl⟩
  obtain ⟨gs, rfl, pr⟩ := kin_prs hn
  have pd1 : Prs S (sortP (ded (allP gs))) := fun p m => pr p (ded_mem.1 (sortP_mem.1 m))
  have ln : (sortP (ded (allP gs))).length ≤ 600 := by
    rw [sortP_len]
    have := prs_len (ded_nd (allP gs)) (ded_prs pr)
    have : S.length * S.length ≤ 24 * 24 := Nat.mul_le_mul l24 l24
    omega
  simp -implicitDefEqProofs [kinR]
  refine gm_make (init_ok hS l2 l24 pd1 ln) rfl rfl ?_ (fun _ h => h.elim)
  rintro _ rfl
  simp -implicitDefEqProofs
  exact ⟨hn, pr⟩
theorem of_kin_bad {d g : D} {k : Int} (hd : PpV d) (hk : dueD d = .int k) : Ev (gm_Party_of_kin (rhoC "Party" [.sh, .sh] [d, g] 0)) (fun fl _ => ∃ d, fl = .rf d ∧ False) (fun e _ => e = .obj "BadPeople" ["index"] [.int k]) := by
  simp -implicitDefEqProofs [gm_Party_of_kin, rhoC, rho0, rho1, List.replicate]
  exact gv_call2 (kin_bad hd hk).gv (fun _ h => h.elim) (fun e h => h)
theorem lkG : List.lookup ("BadGroups" : PySem.Str) [("BadPeople", false), ("BadPair", false), ("BadGroups", true)] = some true := by rfl
theorem lkP1 : List.lookup ("BadPeople" : PySem.Str) [("BadPeople", false), ("BadPair", false), ("BadGroups", true)] = some false := by rfl
theorem lkP2 : List.lookup ("BadPeople" : PySem.Str) [("BadPeople", true), ("BadPair", false), ("BadGroups", false)] = some true := by rfl
theorem told (hS : Ppl S) (l2 : 2 ≤ S.length) (l24 : S.length ≤ 24) {g : D} (hg : GsV g) (w : Int) : Gv [.sh, .sh, .sh] 1 gxxlaw_told [.tup (S.map D.str), g, .int w] (fun r => r = dueK S g) NoX := by
  have gf : ∀ k : Int, getF "index" ["index"] [D.int k] = some (.int k) := fun _ => rfl
  simp -implicitDefEqProofs [-y_if, Gv, gxxlaw_told, rho0, rho1, List.replicate]
  rw [y_if]
  by_cases c : w = 0
  · simp -implicitDefEqProofs [c]
    refine gv_call2 (kin_ok hS l2 l24 hg).gv ?_ ?_
    · rintro _ ⟨hn, rfl⟩
      simp -implicitDefEqProofs
      rw [due_on hn]
    · rintro e ⟨k, hk, rfl⟩
      simp -implicitDefEqProofs [tryM, hdlP, lkG, gf]
      rw [due_of (r := .non) hk]
  · simp -implicitDefEqProofs [c]
    refine gv_cm (of_kin hS l2 l24 hg) rfl rfl ?_ ?_
    · rintro _ ⟨hn, gs, rfl, pr, rfl⟩
      have pd1 : Prs S (ded (sortP (ded (allP gs)))) := fun p m => pr p (ded_mem.1 (sortP_mem.1 (ded_mem.1 m)))
      simp -implicitDefEqProofs [io_barred]
      refine gv_call1 (p_barred hS pd1 (by have := few_clo l24 (ded_nd _) pd1; omega)).gv ?_ (fun _ h => h.elim)
      rintro _ rfl
      simp -implicitDefEqProofs
      rw [due_on hn, ded_sort]
      rfl
    · rintro e ⟨k, hk, rfl⟩
      simp -implicitDefEqProofs [tryM, hdlP, lkG, gf]
      rw [due_of (r := .non) hk]
theorem told_bad {d g : D} {k : Int} (hd : PpV d) (hk : dueD d = .int k) (w : Int) : Gv [.sh, .sh, .sh] 1 gxxlaw_told [d, g, .int w] (fun r => r = .tup [.str "people", .int k]) NoX := by
  have gf : ∀ k : Int, getF "index" ["index"] [D.int k] = some (.int k) := fun _ => rfl
  simp -implicitDefEqProofs [-y_if, Gv, gxxlaw_told, rho0, rho1, List.replicate]
  rw [y_if]
  by_cases c : w = 0
  · simp -implicitDefEqProofs [c]
    refine gv_call2 (kin_bad hd hk).gv (fun _ h => h.elim) ?_
    rintro e rfl
    simp -implicitDefEqProofs [tryM, hdlP, lkP1, lkP2, gf]
  · simp -implicitDefEqProofs [c]
    refine gv_cm (of_kin_bad (g := g) hd hk) rfl rfl (fun _ h => h.elim) ?_
    rintro e rfl
    simp -implicitDefEqProofs [tryM, hdlP, lkP1, lkP2, gf]
/-- a group as the law draws it -/
def GoodG (x : D) : Prop := GrpV x ∧ sameD 4 x = true
def GsD (S : List PySem.Str) (g : D) : Prop := ∃ gs, g = .lst gs ∧ gs.length ≤ 100 ∧ ∀ x ∈ gs, GoodG x
theorem same_ok {n : Nat} {d : D} (h : okP d = true) : sameD n d = true := by
  cases n with
  | zero => exact h
  | succ n => show (okP d || _) = true; rw [h]; rfl
theorem same_lst {n : Nat} {ds : List D} (h : ∀ d ∈ ds, sameD n d = true) : sameD (n + 1) (.lst ds) = true := by
  show (okP _ || ds.all (sameD n)) = true
  rw [List.all_eq_true.2 h, Bool.or_true]
theorem good_lstS {T : List PySem.Str} (l : T.length ≤ 100) (h : ∀ t ∈ T, Sh 16777216 t) : GoodG (lstS T) :=
  ⟨.inl ⟨_, rfl, by simpa using l, fun x m => by
    obtain ⟨t, mt, rfl⟩ := List.mem_map.1 m
    exact vl_str (h t mt) (Nat.le_refl _)⟩, same_ok (okP_strs h)⟩
theorem okP_1 {a : PySem.Str} (h : Sh 16777216 a) : okP (.tup [.str a]) = true := okP_strsT (S := [a]) (by simpa using h)
theorem odd_ok {a b : PySem.Str} (ha : Sh 16777216 a) (hb : Sh 16777216 b) : ∀ x ∈ ([.lst [], .tup [.str a], .lst [.str a, .str b, .str a], .lst [.str a, .str "notthere"], .non, .str a, .lst [.non], .lst [.lst [.str a]], .dk [] [], .lst [.str b, .int 7]] : List D), GoodG x := by
  have hn : Sh 16777216 "notthere" := shl (by decide +kernel)
  have va : Vl (.str a) := vl_str ha (Nat.le_refl _)
  have vb : Vl (.str b) := vl_str hb (Nat.le_refl _)
  have vn : Vl (.str "notthere") := vl_str hn (Nat.le_refl _)
  have sa : ∀ n, sameD n (.str a) = true := fun n => same_ok (okP_sh ha)
  have sb : ∀ n, sameD n (.str b) = true := fun n => same_ok (okP_sh hb)
  have sn : ∀ n, sameD n (.str "notthere") = true := fun n => same_ok (okP_sh hn)
  intro x m
  simp only [List.mem_cons, List.not_mem_nil, or_false] at m
  rcases m with rfl | rfl | rfl | rfl | rfl | rfl | rfl | rfl | rfl | rfl
  · exact ⟨.inl ⟨_, rfl, by simp, by simp⟩, same_lst (by simp)⟩
  · exact ⟨.inr rfl, same_ok (okP_1 ha)⟩
  · exact ⟨.inl ⟨_, rfl, by simp, by simp [va, vb]⟩, same_lst (by simp [sa, sb])⟩
  · exact ⟨.inl ⟨_, rfl, by simp, by simp [va, vn]⟩, same_lst (by simp [sa, sn])⟩
  · exact ⟨.inr rfl, same_ok rfl⟩
  · exact ⟨.inr rfl, sa 4⟩
  · exact ⟨.inl ⟨_, rfl, by simp, by intro y my; rw [List.mem_singleton.1 my]; exact .inr rfl⟩, same_lst (by intro y my; rw [List.mem_singleton.1 my]; exact same_ok rfl)⟩
  · exact ⟨.inl ⟨_, rfl, by simp, by intro y my; rw [List.mem_singleton.1 my]; exact .inr rfl⟩, same_lst (by intro y my; rw [List.mem_singleton.1 my]; exact same_lst (by simp [sa]))⟩
  · exact ⟨.inr rfl, rfl⟩
  · exact ⟨.inl ⟨_, rfl, by simp, by
      intro y my
      simp only [List.mem_cons, List.not_mem_nil, or_false] at my
      rcases my with rfl | rfl
      · exact vb
      · exact .inr rfl⟩, same_lst (by
      intro y my
      simp only [List.mem_cons, List.not_mem_nil, or_false] at my
      rcases my with rfl | rfl
      · exact sb 3
      · exact same_ok rfl)⟩
theorem pick6 {M : List D} (P : D → Prop) (h : ∀ x ∈ M, P x) {k : Nat} (hk : k < M.length) {ρ : Rho} {Q : D → Rho → Prop} {E : D → Rho → Prop} (q : ∀ x, P x → Q x ρ) : Ev (ofO (ixD (.lst M) (.int (k : Int))) ρ) Q E := by
  rw [ix_lst (List.getElem?_eq_getElem hk)]
  simp only [ofO, y_ok]
  exact q _ (h _ (List.getElem_mem hk))
theorem st_lst6 {ds : List D} {k : Nat} {d : D} (h : k < ds.length) : stD (.lst ds) (.int k) d = some (.lst (ds.set k d)) := by
  show (L2.ixN ds.length (k : Int)).map _ = _
  have : L2.ixN ds.length (k : Int) = some k := by
    unfold L2.ixN
    simp [h]
  rw [this]; rfl
theorem groups (ns : List Int) {M : List Int} (hS : Ppl S) (l2 : 2 ≤ S.length) (l24 : S.length ≤ 24) (lM : M.length = 8) : Gv [.sh, .sh, .sh] 6 gxxlaw_groups [.scr ns, .lst (S.map D.str), .lst (M.map D.int)] (GsD S) NoX := by
  have sh := hS.sh
  have j0 := ix_int (L := M) 0 0 rfl (by omega)
  have j1 := ix_int (L := M) 1 1 rfl (by omega)
  have j2 := ix_int (L := M) 2 2 rfl (by omega)
  have j3 := ix_int (L := M) 3 3 rfl (by omega)
  have j4 := ix_int (L := M) 4 4 rfl (by omega)
  have j5 := ix_int (L := M) 5 5 rfl (by omega)
  generalize M.getD 0 0 = n0 at *
  generalize M.getD 1 0 = n1 at *
  generalize M.getD 2 0 = n2 at *
  generalize M.getD 3 0 = n3 at *
  generalize M.getD 4 0 = n4 at *
  generalize M.getD 5 0 = n5 at *
  obtain ⟨k0, e0, l0⟩ := nat_mod n0 (n := 4) (by omega)
  have e0 : n0 % 4 = (k0 : Int) := e0
  obtain ⟨k7, e7, l7⟩ := nat_mod n1 (n := 7) (by omega)
  have e7 : n1 % 7 = (k7 : Int) := e7
  obtain ⟨k2, e2, l2'⟩ := nat_mod n1 (n := 2) (by omega)
  have e2 : n1 % 2 = (k2 : Int) := e2
  have mn : ∃ m : Nat, m ≤ 41 ∧ ixD (.lst [.int (k7 : Int), .int (k7 : Int), .int (k7 : Int), .int (40 + (k2 : Int))]) (.int (k0 : Int)) = some (.int (m : Nat)) := by
    rcases (by omega : k0 = 0 ∨ k0 = 1 ∨ k0 = 2 ∨ k0 = 3) with rfl | rfl | rfl | rfl
    · exact ⟨k7, by omega, rfl⟩
    · exact ⟨k7, by omega, rfl⟩
    · exact ⟨k7, by omega, rfl⟩
    · exact ⟨40 + k2, by omega, rfl⟩
  obtain ⟨m, lm, hm⟩ := mn
  have hr := rng1_i (j := (m : Int)) (by omega) (by omega)
  have lS : lenV (.lst (S.map D.str)) = some (.int (S.length : Nat)) := by rw [s_lenlst, List.length_map]
  simp -implicitDefEqProofs [-y_if, Gv, gxxlaw_groups, rho0, rho1, List.replicate, j0, j1, e0, e7, e2, hm, hr]
  rw [rng_nat]
  refine for_on (xs := List.range m) (f := fun i : Nat => D.int (i : Int)) (fun i ρ => ∃ (Ts : List (List PySem.Str)) (s5 s6 : Slot), ρ = [.sh (.scr ns), .sh (.lst (S.map D.str)), .sh (.lst (M.map D.int)), .sh (.int (m : Nat)), .ow none (.lst (Ts.map lstS)), s5, s6, .no, .no] ∧ Ts.length = i ∧ ∀ T ∈ Ts, LotOk S T) ⟨[], .no, .no, rfl, rfl, by simp⟩ ?_ ?_
  · rintro i hi ρ ⟨Ts, s5, s6, rfl, lT, hT⟩
    rw [List.length_range] at hi
    rw [List.getElem_range]
    have e3 : (3 : Int) + (i : Int) = ((3 + i : Nat) : Int) := by omega
    have eS : (S.length : Int) + 1 = ((S.length + 1 : Nat) : Int) := by omega
    simp -implicitDefEqProofs [-y_if]
    rw [e3]
    refine gv_call2 (cell ns (3 + i)) ?_ (fun _ h => h.elim)
    rintro _ ⟨c, rfl⟩
    simp -implicitDefEqProofs [-y_if, lS]
    rw [eS]
    refine gv_call2 (draws c (S.length + 1) (by omega)) ?_ (fun _ h => h.elim)
    rintro _ ⟨L, rfl, lL, _⟩
    have x0 := ix_int (L := L) 0 0 rfl (by omega)
    have sf := sl_from (L.map D.int) 1
    rw [← List.map_drop] at sf
    have sf : (slD (.lst (L.map D.int)) (some 1) none).or (slL (.lst (L.map D.int)) (some 1) none) = some (.lst ((L.drop 1).map D.int)) := sf
    generalize L.getD 0 0 = y0 at *
    have l1d : S.length ≤ (L.drop 1).length := by rw [List.length_drop]; omega
    generalize L.drop 1 = L1 at *
    simp -implicitDefEqProofs [-y_if, -List.map_drop, sf, x0]
    refine gv_call3 (lot hS l2 l24 (L := L1) l1d _) ?_ (fun _ h => h.elim)
    rintro _ ⟨T, rfl, hL⟩
    have lt : listD (tupS T) = some (T.map D.str) := rfl
    have lT16 : (Ts.map lstS).length < 16777216 := by rw [List.length_map]; omega
    simp -implicitDefEqProofs [-y_if, lt]
    refine ⟨by omega, Ts ++ [T], by simp [lstS], by simp [lT], fun U mU => ?_⟩
    rcases List.mem_append.1 mU with mU | mU
    · exact hT U mU
    · rw [List.mem_singleton.1 mU]; exact hL
  · rintro ρ ⟨Ts, s5, s6, rfl, lT, hT⟩
    rw [List.length_range] at lT
    have gT : ∀ x ∈ Ts.map lstS, GoodG x := fun x mx => by
      obtain ⟨T, mT, rfl⟩ := List.mem_map.1 mx
      have h := hT T mT
      exact good_lstS (by have := nd_len h.nd h.sub; omega) fun t mt => sh t (h.sub t mt)
    simp -implicitDefEqProofs [-y_if]
    rw [y_if]
    by_cases c0 : 0 < m
    case neg =>
      have c0' : ¬ (0 : Int) < (m : Nat) := by omega
      simp -implicitDefEqProofs [c0]
      exact ⟨_, rfl, by simp; omega, gT⟩
    have c0' : (0 : Int) < (m : Nat) := by omega
    by_cases c2 : n2 % 4 = 0
    case neg =>
      simp -implicitDefEqProofs [c0, j2, c2]
      exact ⟨_, rfl, by simp; omega, gT⟩
    have l1 : 0 < S.length := by omega
    obtain ⟨a, ma, xa⟩ := ix_mod (S := S) l1 n3
    have xb : ixD (.lst (S.map D.str)) (.int 0) = some (.str S[0]) := ix_str' 0 0 rfl l1
    have mb : S[0] ∈ S := List.getElem_mem l1
    generalize S[0] = b at *
    obtain ⟨k5, e5, l5⟩ := nat_mod n5 (n := 10) (by omega)
    have e5 : n5 % 10 = (k5 : Int) := e5
    obtain ⟨k4, e4, l4⟩ := nat_mod n4 (n := m) c0
    have od := odd_ok (sh a ma) (sh b mb)
    simp -implicitDefEqProofs [c0, j2, c2, j3, xa, xb, j5, e5, j4]
    refine ⟨l1, ?_⟩
    refine pick6 (fun x => GoodG x) od (by simpa using l5) fun x gx => ?_
    have st : stD (.lst (Ts.map lstS)) (.int (k4 : Int)) x = some (.lst ((Ts.map lstS).set k4 x)) := st_lst6 (by rw [List.length_map]; omega)
    simp -implicitDefEqProofs [c0, j4, e4, st]
    refine ⟨_, rfl, by simp; omega, fun y my => ?_⟩
    rcases List.mem_or_eq_of_mem_set my with my | rfl
    · exact gT y my
    · exact gx
theorem ne_self6 {gs : List D} (h : ∀ x ∈ gs, GoodG x) : (orC (orC neD (eqDk true)) (eqTw true)) (.lst gs) (.lst gs) = some false := by
  have t := eqTw_self true (ds := gs) (List.all_eq_true.2 fun x m => (h x m).2)
  unfold orC neD
  by_cases o : okP (.lst gs) = true
  · rw [if_pos ⟨o, o⟩, deq_self o]; rfl
  · rw [if_neg (fun z => o z.1)]
    exact t
theorem comp_self {gs : List D} {vs : List Nat} {tg : D → M Unit} {fe : M D} {ρ τ : Rho} {Q : D → Rho → Prop} {E : D → Rho → Prop} (h1 : wipeR vs ρ = τ) (h3 : restR vs ρ τ = ρ) (l : gs.length ≤ 16777216)
    (h : ∀ x ∈ gs, Ev (tg x τ) (fun _ ρ1 => Ev (fe ρ1) (fun y ρ3 => y = x ∧ wipeR vs ρ3 = τ) NF) NF) (q : Q (.lst gs) ρ) : Ev (compR vs tg (ret true) fe gs ρ) Q E := by
  have := comp_map (xs := gs) (f := id) (E := E) (fun x => x) h1 h3 l h (Q := Q) (by rw [List.map_id']; exact q)
  rwa [List.map_id] at this
theorem tail06 (ns : List Int) {M : List Int} {gs : List D} {d : D} {k5 : Int} {R : D → D} (lg : gs.length ≤ 100) (hg : ∀ x ∈ gs, GoodG x) (T : ∀ g w, GsV g → Gv [.sh, .sh, .sh] 1 gxxlaw_told [d, g, .int w] (fun r => r = R g) NoX) (Du : ∀ g, GsV g → Gv [.sh, .sh] 6 gxxlaw_due [d, g] (fun r => r = R g) NoX)
    (hk : (k5 < 6 ∧ ∀ g, R g = R (.lst [])) ∨ (6 ≤ k5 ∧ ∀ g, isiV "list" g = some (.bl false) → R g = .tup [.str "refused", .int (-1)])) (pl : ∀ g, GsV g → Pl 6 (R g)) :
    Ev (tl06 [.sh (.scr ns), .sh (.lst (M.map D.int)), .sh (.lst (S.map D.str)), .sh (.lst gs), .sh d, .sh (.int k5), .no, .no, .no, .no, .no, .no, .no]) (fun fl _ => fl = .rt (.bl true)) (fun _ _ => False) := by
  have ng : negD (.int 1) = some (.int (-1)) := rfl
  have gv : GsV (.lst gs) := .inl ⟨gs, rfl, lg, fun x m => (hg x m).1⟩
  have gn : GsV (.lst []) := .inl ⟨[], rfl, by simp, by simp⟩
  have tg : tupD (.lst gs) = some gs := rfl
  have sq : ([.tup gs, .non, .dk [] [], .str "", .int 0] : List D) = ([.tup gs, .non, .dk [] [], .str "", .int 0] : List D).map id := rfl
  have s2 : ([.int 0, .int 1] : List D) = ([0, 1] : List Int).map D.int := rfl
  have s3 : ([.int 0, .int 1, .int 0] : List D) = ([0, 1, 0] : List Int).map D.int := rfl
  have od : ∀ x ∈ ([.tup gs, .non, .dk [] [], .str "", .int 0] : List D), isiV "list" x = some (.bl false) := fun x m => by
    simp only [List.mem_cons, List.not_mem_nil, or_false] at m
    rcases m with rfl | rfl | rfl | rfl | rfl <;> rfl
  have l5 : gs.length ≤ 16777216 := by omega
  simp -implicitDefEqProofs [-y_if, tl06, tg, l5]
  rw [sq]
  refine for_on (xs := ([.tup gs, .non, .dk [] [], .str "", .int 0] : List D)) (f := id) (fun i ρ => ∃ s7 s8 s9, ρ = [.sh (.scr ns), .sh (.lst (M.map D.int)), .sh (.lst (S.map D.str)), .sh (.lst gs), .sh d, .sh (.int k5), .no, s7, s8, s9, .no, .no, .no]) ⟨_, _, _, rfl⟩ ?_ ?_
  · rintro i hi ρ ⟨s7, s8, s9, rfl⟩
    have mx := List.getElem_mem hi
    have ox := od _ mx
    have gx : GsV (([.tup gs, .non, .dk [] [], .str "", .int 0] : List D)[i]) := .inr ox
    generalize ([.tup gs, .non, .dk [] [], .str "", .int 0] : List D)[i] = x at *
    clear mx
    simp -implicitDefEqProofs [-y_if, ng]
    refine Ev.mono (Q := fun fl ρ => fl = .nx ∧ ρ = [.sh (.scr ns), .sh (.lst (M.map D.int)), .sh (.lst (S.map D.str)), .sh (.lst gs), .sh d, .sh (.int k5), .no, .sh x, .sh (R x), s9, .no, .no, .no]) (E := fun _ _ => False) ?_ ?_ (fun _ _ h => h.elim)
    · rw [y_if]
      rcases hk with ⟨c, e⟩ | ⟨c, e⟩
      · simp -implicitDefEqProofs [c]
        refine gv_call2 (Du _ gn) ?_ (fun _ h => h.elim)
        rintro _ rfl
        simp -implicitDefEqProofs
        rw [e x]
      · have c' : ¬ k5 < 6 := by omega
        simp -implicitDefEqProofs [c']
        rw [e x ox]
    rintro fl ρ ⟨rfl, rfl⟩
    simp -implicitDefEqProofs [-y_if]
    rw [s2]
    refine for_on (xs := ([0, 1] : List Int)) (f := D.int) (fun i ρ => ∃ s9, ρ = [.sh (.scr ns), .sh (.lst (M.map D.int)), .sh (.lst (S.map D.str)), .sh (.lst gs), .sh d, .sh (.int k5), .no, .sh x, .sh (R x), s9, .no, .no, .no]) ⟨_, rfl⟩ ?_ ?_
    · rintro j hj ρ ⟨s9, rfl⟩
      generalize ([0, 1] : List Int)[j] = w
      simp -implicitDefEqProofs [-y_if]
      rw [y_if]
      simp -implicitDefEqProofs [-y_if]
      refine gv_call3 (T x w gx) ?_ (fun _ h => h.elim)
      rintro _ rfl
      simp -implicitDefEqProofs [-y_if]
      refine gv_call2 (equal_refl 6 _ (pl x gx)) ?_ (fun _ h => h.elim)
      rintro _ rfl
      simp -implicitDefEqProofs
    · rintro ρ ⟨s9, rfl⟩
      simp -implicitDefEqProofs
  · rintro ρ ⟨s7, s8, s9, rfl⟩
    simp -implicitDefEqProofs [-y_if]
    refine gv_call2 (Du _ gv) ?_ (fun _ h => h.elim)
    rintro _ rfl
    simp -implicitDefEqProofs [-y_if]
    rw [s3]
    refine for_on (xs := ([0, 1, 0] : List Int)) (f := D.int) (fun i ρ => ∃ s9 s11, ρ = [.sh (.scr ns), .sh (.lst (M.map D.int)), .sh (.lst (S.map D.str)), .sh (.lst gs), .sh d, .sh (.int k5), .no, s7, s8, s9, .sh (R (.lst gs)), s11, .no]) ⟨_, _, rfl⟩ ?_ ?_
    · rintro j hj ρ ⟨s9, s11, rfl⟩
      generalize ([0, 1, 0] : List Int)[j] = w
      simp -implicitDefEqProofs [-y_if]
      refine comp_self (τ := [.sh (.scr ns), .sh (.lst (M.map D.int)), .sh (.lst (S.map D.str)), .sh (.lst gs), .sh d, .sh (.int k5), .no, s7, s8, .sh (.int w), .sh (R (.lst gs)), s11, .no]) (by simp [wipeR]) (by first | (simp [restR]; done) | (simp [restR]; rfl)) (by omega) ?_ ?_
      · intro x mx
        rcases (hg x mx).1 with ⟨ys, rfl, _, _⟩ | n
        · have ly : listD (.lst ys) = some ys := rfl
          simp -implicitDefEqProofs [ly, wipeR]
        · simp -implicitDefEqProofs [n, wipeR]
      have nx := ne_self6 hg
      simp -implicitDefEqProofs [-y_if]
      rw [y_if]
      simp -implicitDefEqProofs [-y_if]
      refine gv_call3 (T _ w gv) ?_ (fun _ h => h.elim)
      rintro _ rfl
      simp -implicitDefEqProofs [-y_if]
      refine gv_call2 (equal_refl 6 _ (pl _ gv)) ?_ (fun _ h => h.elim)
      rintro _ rfl
      simp -implicitDefEqProofs [nx]
    · rintro ρ ⟨s9, s11, rfl⟩
      simp -implicitDefEqProofs
theorem due_bad {xs : List D} {i : Nat} (hi : i < xs.length) (b : badI nameD xs i = true) : ∃ k : Int, dueD (.tup xs) = .int k := by
  show ∃ k : Int, (if 2 ≤ xs.length ∧ xs.length ≤ 24 then (match first (badI nameD xs) xs.length with | some i => D.int (i : Nat) | none => .non) else .int (-1)) = .int k
  split
  · cases e : first (badI nameD xs) xs.length with
    | some j => exact ⟨j, rfl⟩
    | none => rw [first_none' e i hi] at b; cases b
  · exact ⟨-1, rfl⟩
theorem due_len {xs : List D} (h : ¬ (2 ≤ xs.length ∧ xs.length ≤ 24)) : ∃ k : Int, dueD (.tup xs) = .int k := ⟨-1, if_neg h⟩
theorem nm_name {s : PySem.Str} (h : nameB s = true) : NmV (.str s) := .inr ⟨s, rfl, (sh_name h).mono (by omega), by rw [h, decide_eq_true (sh_name h).1]⟩
theorem pl_due (hS : Ppl S) (l24 : S.length ≤ 24) {g : D} : Pl 6 (dueK S g) := by
  unfold dueK
  split
  · exact plt2 (m := 5) (show Sh 16777216 _ from shl (by decide +kernel)) trivial
  · next h =>
    obtain ⟨gs, rfl, pr⟩ := kin_prs h
    refine plt2 (m := 5) (show Sh 16777216 _ from shl (by decide +kernel)) ?_
    refine pl_prs (m := 2) (fun p m => pr.sh hS p (ded_mem.1 (sortP_mem.1 m))) ?_
    rw [sortP_len]
    have := few_clo l24 (ded_nd (allP gs)) (ded_prs pr)
    omega
theorem letters25 : ∃ U : List Nat, signs "abcdefghijklmnopqrstuvwxy" = U.map (fun c => D.str ⟨#[c]⟩) ∧ U.length = 25 ∧ ∀ c ∈ U, nameB (("yyyyyyy" : PySem.Str) ++ ⟨#[c]⟩) = true := ⟨_, rfl, by decide +kernel, by decide +kernel⟩
theorem good_k06 (ns : List Int) : Ev (g_law (rho0 [.sh] [.scr ns] 12)) (fun fl _ => fl = .rt (.bl true)) (fun _ _ => False) := by
  rw [law_eq]
  simp -implicitDefEqProofs [-y_if, hd06, rho0, rho1, List.replicate]
  refine gv_call2 (cell ns 0) ?_ (fun _ h => h.elim)
  rintro _ ⟨c0, rfl⟩
  simp -implicitDefEqProofs [-y_if]
  refine gv_call2 (draws c0 8 (by omega)) ?_ (fun _ h => h.elim)
  rintro _ ⟨M, rfl, lM, _⟩
  have j6 := ix_int (L := M) 6 6 rfl (by omega)
  have j7 := ix_int (L := M) 7 7 rfl (by omega)
  generalize M.getD 6 0 = n6 at *
  generalize M.getD 7 0 = n7 at *
  obtain ⟨k6, e6, l6⟩ := nat_mod n6 (n := 9) (by omega)
  obtain ⟨k7, e7, l7⟩ := nat_mod n7 (n := 18) (by omega)
  have e6 : n6 % 9 = (k6 : Int) := e6
  have e7 : n7 % 18 = (k7 : Int) := e7
  have ep : (2 : Int) + (k6 : Int) = ((2 + k6 : Nat) : Int) := by omega
  simp -implicitDefEqProofs [-y_if]
  refine gv_call2 (cell ns 1) ?_ (fun _ h => h.elim)
  rintro _ ⟨c1, rfl⟩
  simp -implicitDefEqProofs [-y_if, j6, e6]
  rw [ep]
  refine gv_call2 (people c1 (2 + k6) (by omega)) ?_ (fun _ h => h.elim)
  rintro _ ⟨S, rfl, lS, hS, far⟩
  have sh := hS.sh
  have l24 : S.length ≤ 24 := by omega
  have l2 : 2 ≤ S.length := by omega
  simp -implicitDefEqProofs [-y_if]
  refine gv_call3 (groups ns hS l2 l24 lM) ?_ (fun _ h => h.elim)
  rintro _ ⟨gs, rfl, lg, hg⟩
  have tS : tupD (.lst (S.map D.str)) = some (S.map D.str) := rfl
  have xa : ixD (.lst (S.map D.str)) (.int 0) = some (.str S[0]) := ix_str' 0 0 rfl (by omega)
  have ma : S[0] ∈ S := List.getElem_mem (by omega)
  have s16 : S.length ≤ 16777216 := by omega
  simp -implicitDefEqProofs [-y_if, tS, j7, e7, s16]
  have nmS : ∀ x ∈ S.map D.str, NmV x := fun x m => by
    obtain ⟨s, ms, rfl⟩ := List.mem_map.1 m
    exact nm_name (hS.2 s ms)
  -- what is passed for people: good or wrong
  have fin : ∀ d : D, (k7 < 6 ∧ PplV d ∧ ∃ k : Int, dueD d = .int k) ∨ (6 ≤ k7 ∧ d = .tup (S.map D.str)) → Ev (tl06 [.sh (.scr ns), .sh (.lst (M.map D.int)), .sh (.lst (S.map D.str)), .sh (.lst gs), .sh d, .sh (.int (k7 : Nat)), .no, .no, .no, .no, .no, .no, .no]) (fun fl _ => fl = .rt (.bl true)) (fun _ _ => False) := by
    rintro d (⟨c, hp, k, hk⟩ | ⟨c, rfl⟩)
    · exact tail06 ns (R := fun _ => .tup [.str "people", .int k]) lg hg (fun g w _ => told_bad hp.pp hk w) (fun g _ => law_due_bad hp hk) (.inl ⟨by omega, fun _ => rfl⟩) (fun g _ => plt2 (m := 5) (show Sh 16777216 _ from shl (by decide +kernel)) trivial)
    · exact tail06 ns (R := dueK S) lg hg (fun g w hg => told hS l2 l24 hg w) (fun g hg => law_due hS l2 l24 hg) (.inr ⟨by omega, fun g n => due_of (r := .non) (kinDue_non n)⟩) (fun g _ => pl_due hS l24)
  rcases (by omega : k7 = 0 ∨ k7 = 1 ∨ k7 = 2 ∨ k7 = 3 ∨ k7 = 4 ∨ k7 = 5 ∨ 6 ≤ k7) with rfl | rfl | rfl | rfl | rfl | rfl | c
  · have f := fin (.tup [.str S[0], .str S[0]]) (.inl ⟨by omega, .inl ⟨_, rfl, by simp, fun x m => nmS x (by simp at m; rw [m]; exact List.mem_map_of_mem ma)⟩, due_bad (i := 1) (by simp) (by
      have : badI nameD [.str S[0], .str S[0]] 1 = (!nameD (.str S[0]) || (deq (.str S[0]) (.str S[0]) || false)) := rfl
      rw [this, deq_s]; simp)⟩)
    simp -implicitDefEqProofs [xa]
    first | exact f | exact ⟨by omega, f⟩
  · have f := fin (.lst (S.map D.str)) (.inl ⟨by omega, .inr rfl, -1, rfl⟩)
    have lS2 : listD (.lst (S.map D.str)) = some (S.map D.str) := rfl
    simp -implicitDefEqProofs [xa, lS2]
    first | exact f | exact ⟨by omega, f⟩
  · have f := fin (.tup [.str S[0]]) (.inl ⟨by omega, .inl ⟨_, rfl, by simp, fun x m => nmS x (by simp at m; rw [m]; exact List.mem_map_of_mem ma)⟩, due_len (by simp)⟩)
    simp -implicitDefEqProofs [xa]
    first | exact f | exact ⟨by omega, f⟩
  · obtain ⟨U, eU, lU, hU⟩ := letters25
    have f := fin (.tup (U.map fun c => D.str (("yyyyyyy" : PySem.Str) ++ ⟨#[c]⟩))) (.inl ⟨by omega, .inl ⟨_, rfl, by rw [List.length_map]; omega, fun x m => by
      obtain ⟨c, mc, rfl⟩ := List.mem_map.1 m
      exact nm_name (hU c mc)⟩, due_len (by rw [List.length_map]; omega)⟩)
    have ad : ∀ c : Nat, addD (.str "yyyyyyy") (.str ⟨#[c]⟩) = some (.str (("yyyyyyy" : PySem.Str) ++ ⟨#[c]⟩)) := fun c => add_str (show 7 + 1 ≤ 16777216 by omega)
    have tU : tupD (.lst (U.map fun c => D.str (("yyyyyyy" : PySem.Str) ++ ⟨#[c]⟩))) = some (U.map fun c => D.str (("yyyyyyy" : PySem.Str) ++ ⟨#[c]⟩)) := rfl
    have u16 : U.length ≤ 16777216 := by omega
    simp -implicitDefEqProofs [eU]
    refine comp_map (xs := U) (f := fun c => D.str ⟨#[c]⟩) (fun c => D.str (("yyyyyyy" : PySem.Str) ++ ⟨#[c]⟩)) (τ := [.sh (.scr ns), .sh (.lst (M.map D.int)), .sh (.lst (S.map D.str)), .sh (.lst gs), .sh (.tup (S.map D.str)), .sh (.int 3), .no, .no, .no, .no, .no, .no, .no]) (by simp [wipeR]) (by first | (simp [restR]; done) | (simp [restR]; rfl)) u16 ?_ ?_
    · intro c mc
      simp -implicitDefEqProofs [ad, wipeR]
    simp -implicitDefEqProofs [tU, u16]
    first | exact f | exact ⟨by omega, f⟩
  · have f := fin (.tup (S.map D.str ++ [.str "abcdefghi"])) (.inl ⟨by omega, .inl ⟨_, rfl, by simp; omega, fun x m => by
      rcases List.mem_append.1 m with m | m
      · exact nmS x m
      · rw [List.mem_singleton.1 m]
        exact .inr ⟨_, rfl, shl (by decide +kernel), by decide +kernel⟩⟩, due_bad (i := S.length) (by simp) (by
      have : (S.map D.str ++ [D.str "abcdefghi"]).getD S.length .non = .str "abcdefghi" := by simp [List.getD]
      unfold badI
      rw [this, show nameD (.str "abcdefghi") = false from by decide +kernel]; rfl)⟩)
    have ad : addD (.tup (S.map D.str)) (.tup [.str "abcdefghi"]) = some (.tup (S.map D.str ++ [.str "abcdefghi"])) := if_pos (by simp; omega)
    simp -implicitDefEqProofs [tS, s16, ad]
    first | exact f | exact ⟨by omega, f⟩
  · have f := fin (.tup (((S.map D.str).take 1 ++ [.non]) ++ (S.map D.str).drop 1)) (.inl ⟨by omega, .inl ⟨_, rfl, by simp; omega, fun x m => by
      rcases List.mem_append.1 m with m | m
      · rcases List.mem_append.1 m with m | m
        · exact nmS x (List.mem_of_mem_take m)
        · rw [List.mem_singleton.1 m]; exact .inl rfl
      · exact nmS x (List.mem_of_mem_drop m)⟩, due_bad (i := 1) (by simp; omega) (by
      have : (((S.map D.str).take 1 ++ [D.non]) ++ (S.map D.str).drop 1).getD 1 .non = .non := by
        have e1 : ((S.map D.str).take 1).length = 1 := by rw [List.length_take, List.length_map]; omega
        rw [List.append_assoc, List.getD, List.getElem?_append_right (by omega), e1]; rfl
      unfold badI
      rw [this]; rfl)⟩)
    have sl1 := slLst (S.map D.str) 1
    have sl1 : (slD (.lst (S.map D.str)) none (some 1)).or (slL (.lst (S.map D.str)) none (some 1)) = some (.lst ((S.map D.str).take 1)) := sl1
    have sf := sl_from (S.map D.str) 1
    have sf : (slD (.lst (S.map D.str)) (some 1) none).or (slL (.lst (S.map D.str)) (some 1) none) = some (.lst ((S.map D.str).drop 1)) := sf
    have lA : (S.map D.str).length ≤ 100 := by simp; omega
    generalize hA : (S.map D.str).take 1 = A at *
    generalize hB : (S.map D.str).drop 1 = B at *
    have l1 : A.length ≤ 100 := by rw [← hA, List.length_take]; omega
    have lB : B.length ≤ 100 := by rw [← hB, List.length_drop]; omega
    have tA : tupD (.lst A) = some A := rfl
    have tB : tupD (.lst B) = some B := rfl
    have ad1 : addD (.tup A) (.tup [.non]) = some (.tup (A ++ [.non])) := if_pos (by simp; omega)
    have ad2 : addD (.tup (A ++ [.non])) (.tup B) = some (.tup ((A ++ [.non]) ++ B)) := if_pos (by simp; omega)
    have a16 : A.length ≤ 16777216 := by omega
    have b16 : B.length ≤ 16777216 := by omega
    simp -implicitDefEqProofs [-List.append_assoc, sl1, sf, tA, tB, ad1, ad2, a16, b16]
    first | exact f | exact ⟨by omega, f⟩
  · have f := fin _ (.inr ⟨c, rfl⟩)
    have d0 : ¬ (k7 = 0) := by omega
    have d1 : ¬ (k7 = 1) := by omega
    have d2 : ¬ (k7 = 2) := by omega
    have d3 : ¬ (k7 = 3) := by omega
    have d4 : ¬ (k7 = 4) := by omega
    have d5 : ¬ (k7 = 5) := by omega
    have i0 : ¬ ((k7 : Int) = 0) := by omega
    have i1 : ¬ ((k7 : Int) = 1) := by omega
    have i2 : ¬ ((k7 : Int) = 2) := by omega
    have i3 : ¬ ((k7 : Int) = 3) := by omega
    have i4 : ¬ ((k7 : Int) = 4) := by omega
    have i5 : ¬ ((k7 : Int) = 5) := by omega
    simp -implicitDefEqProofs [d0, d1, d2, d3, d4, d5, i0, i1, i2, i3, i4, i5]
    first | exact f | exact ⟨by omega, f⟩
theorem good : forall ns : List Int, ns.length ≤ 63 → Good 12 g_law ns := good_of good_k06
end
end Wk

set_option maxRecDepth 100000
set_option maxHeartbeats 0
open PySem PySem.W PySem.Calls PyProof.Rows
theorem PySem.Challenge.cw_giftrings_k06_kin_holds : PySem.Challenge.rw_giftrings_k06_kin.Holds := by
  w_on; o_law
  refine HandSHeadRun.head_any (r := Wk.Rr) (q := Wk.runQ) (H := Wk.hk) (ob := Wk.ob) (M := 4000) (loose := Wk.lss) (d := HandSHeadRun.topDef Wk.Rr.prog 29) (kwd := []) Wk.ob_eq
    (by kernel_rfl) (fun s => by kernel_rfl) Wk.run (by kernel_rfl) (by kernel_rfl) (by kernel_rfl) (by rfl) (by first | assumption | decide +kernel) (by decide +kernel) ⟨rfl, rfl, rfl, rfl, rfl, by decide +kernel⟩ ?hw ?hc
  case hw => w_witness2
  case hc =>
    refine L2.walk_ofE (l := PySem.Challenge.rw_giftrings_k06_kin) (n := 63) (k := 10) (x := "_law_script") (CX := Qy.CXw Wk.P) rfl (by decide) (by kernel_rfl) ⟨rfl, by decide, by decide⟩ ?F Qy.cx_none
    intro w mg fa h Y G hmg0
    obtain ⟨K, KX, c⟩ := Y
    have hmg : mg ("law" : PySem.Str) = some (.ref fa) := by
      have e : (HandSHeadRun.topDef Wk.Rr.prog 29).name = ("law" : PySem.Str) := by kernel_rfl
      rw [← e]; exact hmg0
    have e := hmg.symm.trans (He.glo_ok KX G (c.fact 49 (f := .glo "law")))
    cases e
    obtain ⟨fd, sp, hb, hsp, hF⟩ := Qy.law_end (w := w) KX G (fun base M => Wk.t_g_law (w := w) c M) Wk.good
    exact ⟨K, fd, sp, KX, hb, fun H a ns hl _ hS => hsp H a ns hl hS, hF⟩

