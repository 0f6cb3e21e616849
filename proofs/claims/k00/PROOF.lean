import PyProof.Rows.All
import Wide.All
import OpenK.AllK
import Wide.FinOn
import KE.KStateDown
import KE.KExcSuper
import HandS.ForMost
import HandS.Exc
import HandS.HeadHook4
import HandS.Head0
import HandS.Head1
import HandS.Head2
import HandS.HeadEnd
import HandS.ExcInit
import HandS.Nested
import HandS.Defaults
import HandS.TupAny
import HandS.Deep
import HandS.IsInst
import HandS.Strs
import HandS.Style
import HandS.Walk
import HandS.Zip
import HandS.Property
import HandS.Codes
import OpenK.KMore
import HandS.ListItems
import KE.KDictList
import KE.SortData
import KE.GoesMore
import PyProof.Rows.RuleB_pow
import KE.KDictZip
import KE.KExcIs
import HandS.ExcField
import PyProof.ReprRoads
import HandS.Conv
import HandS.HeadWalk
import PySem.Challenge.RW_unbridged_k00_each_error_by_itself
set_option Elab.async false
set_option linter.all false
set_option maxRecDepth 100000
set_option maxHeartbeats 1000000
/-! HX: what a head's run looks at -/
namespace LY
open PySem PySem.Spec PyProof.Rows L2
abbrev tabO : Obj := { cls := .none, data := .fields #[] }
/-- K holds no plain list -/
def noLst (K : PySem.W.Frag) : Bool := K.all fun q => match q.2.cls with
  | .type c => !(c == "list")
  | _ => true
def veTail : List Value := [.type "ValueError", .type "Exception", .type "BaseException", .type "object"]
/-- the classes above (and with) C -/
def mroX (D C : Addr) : List Value := if C = D then .ref D :: veTail else .ref C :: .ref D :: veTail
def slB (sl : Array (Option Value)) : Bool := match sl.toList with
  | [_, _, _, _, some (.builtin id), _] => id == "ValueError.__new__"
  | _ => false
def oexB (K : PySem.W.Frag) (D C : Addr) : Bool := match K.lookup C with
  | some ⟨.type t, _, .cls cd, sl⟩ => (t == "type") && (slB sl && (cd.hasDict && (!cd.hasDel && decide (cd.mro = mroX D C))))
  | _ => false
def eqV (a b : Option (Option Value)) : Bool := decide (a = b)
def eqB (a : Option Bool) : Bool := match a with
  | some b => b
  | none => false
def xrB (K : PySem.W.Frag) (D C : Addr) : Bool :=
  oexB K D C && (eqV (PySem.W.findIn K (.ref C) "__setattr__") (some (some (.builtin "object.__setattr__"))) && (eqB (PySem.W.subIn K (.ref C) (.type "BaseException")) && (decide (PySem.W.typeIn K (.ref C) = some (.type "type")) && (PySem.W.keepIn K (.ref C) &&
  (eqV (PySem.W.findIn K (.ref C) "value") (some none) && (eqV (PySem.W.ks_superIn K C D "__init__") (some (some (.builtin "ValueError.__init__"))) && (eqB (PySem.W.subIn K (.ref C) (.type "ValueError")) && (eqB (PySem.W.mroIn K C (.ref D)) &&
  (eqV (PySem.W.findIn K (.ref C) "__getattribute__") (some (some (.builtin "BaseException.__getattribute__"))) && (eqV (PySem.W.findIn K (.ref C) "__getattr__") (some none) && (PySem.W.hasDictIn K C &&
  (eqV (PySem.W.findIn K (.ref C) "__class__") (some (some (.builtin "object.__class__"))) && eqB (PySem.W.mroIn K C (.type "object"))))))))))))))
def xkB (K : PySem.W.Frag) : Bool := eqV (PySem.W.specialIn K (.builtin "object.__class__") "__get__") (some (some (.builtin "getset_descriptor.__get__"))) && eqB (PySem.W.takesIn K (.builtin "object.__class__"))
/-! ### the __init__ -/
abbrev FnI : Type := Option (Str × Str × Arguments × FuncBody × Scope × Addr × List Str × Value × Addr)
def fnI (K : PySem.W.Frag) (f : Addr) : FnI := match K.lookup f with
  | some ⟨_, _, .func fd, _⟩ => some (fd.name, fd.qualname, fd.params, fd.body, fd.scope, fd.globals, fd.closure.map (·.1), fd.defaults, fd.builtins)
  | _ => none
def initB (file : Str) (K : PySem.W.Frag) (D f : Addr) (q : Str) : Bool := match K.lookup f with
  | some ⟨_, _, .func fd, _⟩ => (match fd.code, fd.closure with
    | .ref cda, [(_, cc)] => PySem.W.codeIn K (.ref cda) q && ((match K.lookup cda with
      | some ⟨_, _, .fields vs, _⟩ => (match (vs[2]? : Option Value) with
        | some (Value.str fl _) => file == fl
        | _ => false)
      | _ => false) && (match K.lookup cc with
      | some ⟨_, _, .cell (some (.ref c)), _⟩ => c == D
      | _ => false))
    | _, _ => false)
  | _ => false
/-! ### the Hook: what the names reach, and some places besides -/
def frY (g : Addr → Option Obj) (rs : List Addr) (n : Nat) : PySem.W.Frag := He.frT g (rs ++ He.asD g n)
abbrev AlY : Type := (He.AlD × Bool) × List FnI
def obsY (rs : List Addr) (n : Nat) (fa : List He.Fa) (fn : List He.DefD) (tf : List He.Defn) (ex : PySem.W.Frag → Bool) (fi : PySem.W.Frag → List Addr) (g : Addr → Option Obj) : AlY :=
  ((He.obsD fa fn (frY g rs n), ex (frY g rs n) && He.tabsB g tf (frY g rs n)), (fi (frY g rs n)).map (fnI (frY g rs n)))
def valY (fn : List He.DefD) (vi : List FnI) : AlY := ((He.valD fn, true), vi)
structure SaysY (fa : List He.Fa) (fn : List He.DefD) (tf : List He.Defn) (ex : PySem.W.Frag → Bool) (fi : PySem.W.Frag → List Addr) (vi : List FnI) (h : Heap) (K : PySem.W.Frag) : Prop where
  t : He.SaysD fa fn K
  more : ex K = true
  fi : (fi K).map (fnI K) = vi
  hd : ∀ p ∈ tf, PySem.W.codeHdIn K (He.cT K p).1 (He.cT K p).2 = true
  out : ∀ p ∈ tf, K.lookup (He.cT K p).2 = none
  empty : ∀ p ∈ tf, h.get? (He.cT K p).2 = some tabO
theorem saysY_of {rs : List Addr} {n : Nat} {fa : List He.Fa} {fn : List He.DefD} {tf : List He.Defn} {ex : PySem.W.Frag → Bool} {fi : PySem.W.Frag → List Addr} {vi : List FnI} {h : Heap} (e : obsY rs n fa fn tf ex fi h.get? = valY fn vi) : SaysY fa fn tf ex fi vi h (frY h.get? rs n) := by
  have e1 : He.obsD fa fn (frY h.get? rs n) = He.valD fn := congrArg (fun z : AlY => z.1.1) e
  have e2 : (ex (frY h.get? rs n) && He.tabsB h.get? tf (frY h.get? rs n)) = true := congrArg (fun z : AlY => z.1.2) e
  have e3 : (fi (frY h.get? rs n)).map (fnI (frY h.get? rs n)) = vi := congrArg (fun z : AlY => z.2) e
  generalize hk : frY h.get? rs n = K at e1 e2 e3 ⊢
  obtain ⟨h1, h2⟩ := He.ba e2
  have key : ∀ p ∈ tf, PySem.W.codeHdIn K (He.cT K p).1 (He.cT K p).2 = true ∧ ∃ o, h.get? (He.cT K p).2 = some o ∧ He.emptyTab o = true := fun p hp => by
    obtain ⟨h3, h4⟩ := He.ba (List.all_eq_true.mp h2 p hp)
    refine ⟨h3, ?_⟩
    cases q : h.get? (He.cT K p).2 with
    | none => rw [q] at h4; cases h4
    | some o => rw [q] at h4; exact ⟨o, rfl, h4⟩
  refine ⟨e1, h1, e3, fun p hp => (key p hp).1, fun p hp => ?_, fun p hp => ?_⟩
  · obtain ⟨_, o, q, z⟩ := key p hp
    rw [← hk] at q ⊢
    exact He.frT_none q z
  · obtain ⟨_, o, q, z⟩ := key p hp
    rw [q, He.emptyTab_eq z]
def hookY (rs : List Addr) (n : Nat) (fa : List He.Fa) (fn : List He.DefD) (tf : List He.Defn) (ex : PySem.W.Frag → Bool) (fi : PySem.W.Frag → List Addr) (vi : List FnI) : PySem.W.Hook where
  α := AlY
  obs := fun s => obsY rs n fa fn tf ex fi s.heap.get?
  val := fun _ => valY fn vi
  says := fun _ h => ∃ K : PySem.W.Frag, K.In h ∧ SaysY fa fn tf ex fi vi h K
  of := fun _ _ e => ⟨_, He.frT_in, saysY_of e⟩
  keeps := fun _ _ _ ⟨K, hK, c⟩ k => ⟨K, PySem.W.Frag.In.keeps hK k, ⟨c.t, c.more, c.fi, c.hd, c.out, fun p hp => k _ _ (c.empty p hp)⟩⟩
theorem obsY_eq {rs : List Addr} {n : Nat} {fa : List He.Fa} {fn : List He.DefD} {tf : List He.Defn} {ex : PySem.W.Frag → Bool} {fi : PySem.W.Frag → List Addr} {vi : List FnI} {g : Addr → Option Obj} {s : Shared} (h : ∀ a, g a = s.heap.get? a) : obsY rs n fa fn tf ex fi g = (hookY rs n fa fn tf ex fi vi).obs s := by
  rw [show g = s.heap.get? from funext h] <;> rfl
/-! ### a run's observations in two parts -/
abbrev obY (rs : List Addr) (n : Nat) (fa : List He.Fa) (fn : List He.DefD) (tf : List He.Defn) (ex : PySem.W.Frag → Bool) (fi : PySem.W.Frag → List Addr) (s : PySem.W.SharedT) : AlY := obsY rs n fa fn tf ex fi (HandSHeadRun.getT s)
theorem runEq_and {r : PySem.W.OpenRow} {q : Program} {M : Nat} {loose : List Str} {w : World} {rs : List Addr} {n : Nat} {fa : List He.Fa} {fn : List He.DefD} {tf : List He.Defn} {ex1 ex2 : PySem.W.Frag → Bool} {fi : PySem.W.Frag → List Addr} {vi : List FnI}
    (h1 : HandSHeadRun.RunEq r q (hookY rs n fa fn tf ex1 fi vi) (obY rs n fa fn tf ex1 fi) M loose w)
    (h2 : HandSHeadRun.RunEq r q (hookY rs n [] [] [] ex2 (fun _ => []) []) (obY rs n [] [] [] ex2 fun _ => []) M loose w) :
    HandSHeadRun.RunEq r q (hookY rs n fa fn tf (fun K => ex1 K && ex2 K) fi vi) (obY rs n fa fn tf (fun K => ex1 K && ex2 K) fi) M loose w := by
  intro os
  have e1 := h1 os
  have e2 := h2 os
  revert e1 e2
  generalize HandSHeadRun.endF _ M r.prog w os = z
  intro e1 e2
  cases z with
  | none => cases e1
  | some s =>
    rw [Option.map_some] at e1 e2 ⊢
    have e1 := Option.some.inj e1
    have e2 := Option.some.inj e2
    have a1 := congrArg (fun z => z.1) e1
    have a2 := congrArg (fun z => z.2.1) e1
    have a3 : obsY rs n fa fn tf ex1 fi (HandSHeadRun.getT s) = valY fn vi := congrArg (fun z => z.2.2) e1
    have b3 : obsY rs n [] [] [] ex2 (fun _ => []) (HandSHeadRun.getT s) = valY [] [] := congrArg (fun z => z.2.2) e2
    have c1 : He.obsD fa fn (frY (HandSHeadRun.getT s) rs n) = He.valD fn := congrArg (fun z : AlY => z.1.1) a3
    have c2 : (ex1 (frY (HandSHeadRun.getT s) rs n) && He.tabsB (HandSHeadRun.getT s) tf (frY (HandSHeadRun.getT s) rs n)) = true := congrArg (fun z : AlY => z.1.2) a3
    have c3 : (fi (frY (HandSHeadRun.getT s) rs n)).map (fnI (frY (HandSHeadRun.getT s) rs n)) = vi := congrArg (fun z : AlY => z.2) a3
    have d2 : (ex2 (frY (HandSHeadRun.getT s) rs n) && true) = true := congrArg (fun z : AlY => z.1.2) b3
    rw [Bool.and_true] at d2
    obtain ⟨c4, c5⟩ := He.ba c2
    refine congrArg some (Prod.ext a1 (Prod.ext a2 ?_))
    show obsY rs n fa fn tf (fun K => ex1 K && ex2 K) fi (HandSHeadRun.getT s) = valY fn vi
    unfold obsY
    rw [c1, c3, c5, show (fun K => ex1 K && ex2 K) (frY (HandSHeadRun.getT s) rs n) = true by show (ex1 _ && ex2 _) = true; rw [c4, d2]; rfl]; rfl
theorem runEq_mk {r : PySem.W.OpenRow} {q : Program} {M : Nat} {loose : List Str} {w : World} {rs : List Addr} {n : Nat} {fa : List He.Fa} {fn : List He.DefD} {tf : List He.Defn} {ex1 : PySem.W.Frag → Bool} {fi : PySem.W.Frag → List Addr} {vi : List FnI}
    (h1 : HandSHeadRun.RunEq r q (hookY rs n fa fn [] (fun _ => true) (fun _ => []) []) (obY rs n fa fn [] (fun _ => true) fun _ => []) M loose w)
    (h2 : HandSHeadRun.RunEq r q (hookY rs n [] [] tf ex1 fi vi) (obY rs n [] [] tf ex1 fi) M loose w) :
    HandSHeadRun.RunEq r q (hookY rs n fa fn tf ex1 fi vi) (obY rs n fa fn tf ex1 fi) M loose w := by
  intro os
  have e1 := h1 os
  have e2 := h2 os
  revert e1 e2
  generalize HandSHeadRun.endF _ M r.prog w os = z
  intro e1 e2
  cases z with
  | none => cases e1
  | some s =>
    rw [Option.map_some] at e1 e2 ⊢
    have e1 := Option.some.inj e1
    have e2 := Option.some.inj e2
    have a1 := congrArg (fun z => z.1) e1
    have a2 := congrArg (fun z => z.2.1) e1
    have a3 : obsY rs n fa fn [] (fun _ => true) (fun _ => []) (HandSHeadRun.getT s) = valY fn [] := congrArg (fun z => z.2.2) e1
    have b3 : obsY rs n [] [] tf ex1 fi (HandSHeadRun.getT s) = valY [] vi := congrArg (fun z => z.2.2) e2
    have c1 : He.obsD fa fn (frY (HandSHeadRun.getT s) rs n) = He.valD fn := congrArg (fun z : AlY => z.1.1) a3
    have c2 : (ex1 (frY (HandSHeadRun.getT s) rs n) && He.tabsB (HandSHeadRun.getT s) tf (frY (HandSHeadRun.getT s) rs n)) = true := congrArg (fun z : AlY => z.1.2) b3
    have c3 : (fi (frY (HandSHeadRun.getT s) rs n)).map (fnI (frY (HandSHeadRun.getT s) rs n)) = vi := congrArg (fun z : AlY => z.2) b3
    refine congrArg some (Prod.ext a1 (Prod.ext a2 ?_))
    show obsY rs n fa fn tf ex1 fi (HandSHeadRun.getT s) = valY fn vi
    unfold obsY
    rw [c1, c2, c3]; rfl
end LY
set_option Elab.async false
set_option linter.all false
set_option maxRecDepth 100000
set_option maxHeartbeats 0
namespace G
open PySem PySem.Spec PyProof.Rows L2
def top (i : Nat) : Stmt := PySem.Challenge.pw_unbridged_k00_each_error_by_itself.main.body.getD i (.Pass ⟨0, 0, 0, 0⟩)
def nX : List Str := ((["ParkError", "Adrift", "Alike", "Apart", "BadBonds", "BadBundle", "BadCaps", "BadDeed", "BadDetours", "BadFilled", "BadJournal", "BadKnot", "BadLetters", "BadLevels", "BadLine", "BadLists", "BadLot", "BadLump", "BadLumps", "BadNails", "BadNumber", "BadOrders", "BadPark", "BadPaths", "BadPlaces", "BadPledge", "BadPoints", "BadPress", "BadPulls", "BadRing", "BadRings", "BadRow", "BadSigns", "BadSpots", "BadTurning", "BadWood", "Bridge", "CutOff", "Full", "Joined", "Known", "Late", "Meets", "NoFull", "NoGate", "NoPark", "NoPath", "NoTrial", "NotBeside", "NotClear", "NotFlat", "NotFull", "NotOuter", "NotSo", "NotStack", "NotThere", "NotTwo", "NothingToRedo", "NothingToUndo", "Same", "Short", "TooFew", "TooMany", "Uneven", "Unlike"] : List String).map Str.ofString)
end G
namespace H00
open PySem PySem.Spec PyProof.Rows L2 LY
abbrev top (i : Nat) : Stmt := G.top i
def d__law_pot : He.DefD := ⟨("_law_pot", none), "_law_pot", "_law_pot", defArgs (top 67), defBody (top 67), defScope (top 67), [], []⟩
def d__law_take : He.DefD := ⟨("_law_take", none), "_law_take", "_law_take", defArgs (top 68), defBody (top 68), defScope (top 68), [], []⟩
def d__law_of : He.DefD := ⟨("_law_of", none), "_law_of", "_law_of", defArgs (top 69), defBody (top 69), defScope (top 69), [], []⟩
def d__law_cells : He.DefD := ⟨("_law_cells", none), "_law_cells", "_law_cells", defArgs (top 70), defBody (top 70), defScope (top 70), [], []⟩
def d__law_odd : He.DefD := ⟨("_law_odd", none), "_law_odd", "_law_odd", defArgs (top 71), defBody (top 71), defScope (top 71), [], []⟩
def d__law_made_first : He.DefD := ⟨("_law_made_first", none), "_law_made_first", "_law_made_first", defArgs (top 72), defBody (top 72), defScope (top 72), [], []⟩
def d__law_made : He.DefD := ⟨("_law_made", none), "_law_made", "_law_made", defArgs (top 73), defBody (top 73), defScope (top 73), [], []⟩
def d__law_marks_first : He.DefD := ⟨("_law_marks_first", none), "_law_marks_first", "_law_marks_first", defArgs (top 74), defBody (top 74), defScope (top 74), [], []⟩
def d__law_marks : He.DefD := ⟨("_law_marks", none), "_law_marks", "_law_marks", defArgs (top 75), defBody (top 75), defScope (top 75), [], []⟩
def d__law_is_right : He.DefD := ⟨("_law_is_right", none), "_law_is_right", "_law_is_right", defArgs (top 76), defBody (top 76), defScope (top 76), [], []⟩
def d__law_right : He.DefD := ⟨("_law_right", none), "_law_right", "_law_right", defArgs (top 77), defBody (top 77), defScope (top 77), [], []⟩
def d_law : He.DefD := ⟨("law", none), "law", "law", defArgs (top 78), defBody (top 78), defScope (top 78), [], []⟩
def fn : List He.DefD := [d__law_pot, d__law_take, d__law_of, d__law_cells, d__law_odd, d__law_made_first, d__law_made, d__law_marks_first, d__law_marks, d__law_is_right, d__law_right, d_law]
def fa : List He.Fa := [.glo "_law_pot", .glo "_law_take", .glo "_law_of", .glo "_law_cells", .glo "_law_odd", .glo "_law_made_first", .glo "_law_made", .glo "_law_marks_first", .glo "_law_marks", .glo "_law_is_right", .glo "_law_right", .glo "law", .free "len", .free "tuple", .free "list", .free "isinstance", .free "str", .free "int", .free "all", .free "any", .free "range", .free "enumerate", .free "max", .free "min", .free "sum", .free "sorted", .free "repr", .free "dict", .free "abs", .free "zip", .free "bool", .free "ValueError", .free "super"] ++ G.nX.map He.Fa.glo
def tf : List He.Defn := [("_law_made_first", none), ("_law_made", none)]
def inClass (st : Stmt) (i : Nat) : Stmt := match st with
  | .ClassDef _ _ _ b .. => b.getD i st
  | s => s
abbrev sInit : Stmt := inClass (top 1) 0
def cx (K : PySem.W.Frag) (n : Str) : Addr := He.ga K n
def aI (K : PySem.W.Frag) : Addr := He.ma K (cx K "ParkError") "__init__"
abbrev R : PySem.W.OpenRow := PySem.W.OpenLaw.row PySem.Challenge.rw_unbridged_k00_each_error_by_itself
def nodupB : List Addr → Bool
  | [] => true
  | a :: r => !r.contains a && nodupB r
def ex1 (K : PySem.W.Frag) : Bool :=
  noLst K && (xkB K && (nodupB (G.nX.map (cx K)) && (((K.lookup sysModules).isSome && eqV (PySem.W.nsIn K PySem.cStatics "thirdparty.any") (some none)) && (initB R.prog.main.file K (cx K "ParkError") (aI K) "ParkError.__init__" &&
  (decide (PySem.W.typeIn K (.ref (aI K)) = some (.type "function")) && (!((He.cT K ("_law_made_first", none)).2 == (He.cT K ("_law_made", none)).2) &&
  true))))))
def exN (l : List PySem.Str) (K : PySem.W.Frag) : Bool := l.all fun n => xrB K (cx K "ParkError") (cx K n) && eqV (PySem.W.findIn K (.ref (cx K n)) "__init__") (some (some (.ref (aI K))))
def ex2 (K : PySem.W.Frag) : Bool := exN (G.nX.take 33) K
def ex3 (K : PySem.W.Frag) : Bool := exN (G.nX.drop 33) K
def vi : List FnI := [some ("__init__", "ParkError.__init__", defArgs sInit, .stmts (defBody sInit), defScope sInit, mainGlobals, ["__class__"], .none, builtinsNs)]
def rs : List Addr := [sysModules, PySem.cStatics]
abbrev fi (K : PySem.W.Frag) : List Addr := [aI K]
def hk : PySem.W.Hook := hookY rs 5 fa fn tf (fun K => (ex1 K && ex2 K) && ex3 K) fi vi
def ob (s : PySem.W.SharedT) : AlY := obY rs 5 fa fn tf (fun K => (ex1 K && ex2 K) && ex3 K) fi s
theorem ob_eq (s : PySem.W.SharedT) : ob s = hk.obs s.abs := obsY_eq (rs := rs) (n := 5) (fa := fa) (fn := fn) (tf := tf) (ex := fun K => (ex1 K && ex2 K) && ex3 K) (fi := fi) (vi := vi) (HandSHeadRun.getT_eq s)
def names0 : List PySem.Str := ["__name__", "ParkError", "Adrift", "Alike", "Apart", "BadBonds", "BadBundle", "BadCaps", "BadDeed", "BadDetours", "BadFilled", "BadJournal", "BadKnot", "BadLetters", "BadLevels", "BadLine", "BadLists", "BadLot", "BadLump", "BadLumps", "BadNails", "BadNumber", "BadOrders", "BadPark", "BadPaths", "BadPlaces", "BadPledge", "BadPoints", "BadPress", "BadPulls"]
def names1 : List PySem.Str := ["BadRing", "BadRings", "BadRow", "BadSigns", "BadSpots", "BadTurning", "BadWood", "Bridge", "CutOff", "Full", "Joined", "Known", "Late", "Meets", "NoFull", "NoGate", "NoPark", "NoPath", "NoTrial", "NotBeside", "NotClear", "NotFlat", "NotFull", "NotOuter", "NotSo", "NotStack", "NotThere", "NotTwo", "NothingToRedo", "NothingToUndo"]
def names2 : List PySem.Str := ["Same", "Short", "TooFew", "TooMany", "Uneven", "Unlike", "_law_pot", "_law_take", "_law_of", "_law_cells", "_law_odd", "_law_made_first", "_law_made", "_law_marks_first", "_law_marks", "_law_is_right", "_law_right"]
abbrev nm : List PySem.Str := names0 ++ names1 ++ names2
theorem run0 (w : World) : HandSHeadRun.RunEq R (PySem.W.view R.prog [78]) (hookY rs 5 fa fn [] (fun _ => true) (fun _ => []) []) (obY rs 5 fa fn [] (fun _ => true) fun _ => []) 18000 nm w := by
  intro os
  kernel_rfl
theorem run1 (w : World) : HandSHeadRun.RunEq R (PySem.W.view R.prog [78]) (hookY rs 5 [] [] tf ex1 fi vi) (obY rs 5 [] [] tf ex1 fi) 18000 nm w := by
  intro os
  kernel_rfl
theorem run2 (w : World) : HandSHeadRun.RunEq R (PySem.W.view R.prog [78]) (hookY rs 5 [] [] [] ex2 (fun _ => []) []) (obY rs 5 [] [] [] ex2 fun _ => []) 18000 nm w := by
  intro os
  kernel_rfl
theorem run3 (w : World) : HandSHeadRun.RunEq R (PySem.W.view R.prog [78]) (hookY rs 5 [] [] [] ex3 (fun _ => []) []) (obY rs 5 [] [] [] ex3 fun _ => []) 18000 nm w := by
  intro os
  kernel_rfl
theorem run (w : World) : HandSHeadRun.RunEq R (PySem.W.view R.prog [78]) hk ob 18000 nm w := runEq_and (runEq_and (runEq_mk (run0 w) (run1 w)) (run2 w)) (run3 w)
end H00
set_option Elab.async false
set_option linter.all false
set_option maxRecDepth 100000
set_option maxHeartbeats 1000000
/-! LY1: plain data over the abstract heap, quiet expressions -/
namespace LY
open PySem PySem.Spec PyProof.Rows L2

/-- a lambda without captured names: its full name, parameters, body, names -/
structure LF where
  qual : Str
  params : Arguments
  body : Expr
  scope : Scope
/-- the object at f is such a lambda; its code object is at c -/
def LamO (f : Addr) (L : LF) (c : Addr) : HO := .ext fun h => ∃ (od : Option Addr) (sl : Array (Option Value)) (pm ctv : Value), h.get? f = some (⟨.type "function", od, .func (PySem.W.kla_fn "<lambda>" L.qual L.params L.body L.scope [] pm (.ref c) ctv), sl⟩ : Obj)
inductive D where
  | non | bl (b : Bool) | int (i : Int) | str (x : Str) | raw (v : V)
  | tup (ds : List D) | lst (ds : List D) | dic (kvs : List (Key × D)) | ins (C : Addr) (fs : List (Str × D))
  | exc (C : Addr) (fs : List (Str × D))
  | clo (L : LF)

/-- a list (one that may be written, or one that is read alone) -/
def LstS (H : Hp) (a : Addr) (vs : List V) : Prop := Rd H a (.lst vs)
theorem LstS.sq {K : PySem.W.Frag} {H : Hp} {a : Addr} {vs : List V} (h : LstS H a vs) : SqL K H a vs := .inl h
theorem LstS.of {H : Hp} {a : Addr} {vs : List V} (h : H a = some (.lst vs)) : LstS H a vs := .inl h
/-- a tuple that is known to have no dict -/
def TupS (H : Hp) (a : Addr) (vs : List V) : Prop := ∃ o : Obj, H a = some (.frz o (.tup vs)) ∧ o.dict = none
theorem TupS.sq {K : PySem.W.Frag} {H : Hp} {a : Addr} {vs : List V} (h : TupS H a vs) : SqT K H a vs := let ⟨o, e, _⟩ := h; .inl (.inr ⟨o, e⟩)
theorem TupS.some {H : Hp} {a : Addr} {vs : List V} (h : TupS H a vs) : ∃ u, H a = some u := let ⟨_, e, _⟩ := h; ⟨_, e⟩
theorem TupS.new {H : Hp} {a : Addr} {vs : List V} {o : Obj} (h : o.dict = none) : TupS (upd H a (.frz o (.tup vs))) a vs := ⟨o, upd_same, h⟩
mutual
/-- v is the datum d at H; the addresses in A are not leant on -/
def Rp (A : List Addr) (H : Hp) : D → V → Prop
  | .non, v => v = .non
  | .bl b, v => v = .bl b
  | .int i, v => v = .int i
  | .str x, v => v = .str x
  | .raw u, v => v = u
  | .tup ds, v => ∃ a vs, v = .ref a ∧ a ∉ A ∧ TupS H a vs ∧ RpL A H ds vs
  | .lst ds, v => ∃ a vs, v = .ref a ∧ a ∉ A ∧ LstS H a vs ∧ RpL A H ds vs
  | .dic kvs, v => ∃ a vs, v = .ref a ∧ a ∉ A ∧ Rd H a (.dK vs) ∧ RpK A H kvs vs
  | .ins C fs, v => ∃ a dx vs, v = .ref a ∧ a ∉ A ∧ H a = some (.ins C dx vs) ∧ RpF A H fs vs
  | .exc C fs, v => ∃ a dx vs, v = .ref a ∧ a ∉ A ∧ dx ∉ A ∧ H a = some (exo a C (some dx)) ∧ H dx = some (exd dx vs) ∧ RpF A H fs vs
  | .clo L, v => ∃ a c, v = .ref a ∧ a ∉ A ∧ c ∉ A ∧ H a = some (LamO a L c) ∧ H c = some (LamX.CodeO c L.qual)
def RpL (A : List Addr) (H : Hp) : List D → List V → Prop
  | [], vs => vs = []
  | d :: ds, vs => ∃ v r, vs = v :: r ∧ Rp A H d v ∧ RpL A H ds r
def RpK (A : List Addr) (H : Hp) : List (Key × D) → List (Key × V) → Prop
  | [], vs => vs = []
  | (k, d) :: ds, vs => ∃ v r, vs = (k, v) :: r ∧ Rp A H d v ∧ RpK A H ds r
def RpF (A : List Addr) (H : Hp) : List (Str × D) → List (Str × V) → Prop
  | [], vs => vs = []
  | (k, d) :: ds, vs => ∃ v r, vs = (k, v) :: r ∧ Rp A H d v ∧ RpF A H ds r
end

/-- all but A stays -/
def SameX (A : List Addr) (H H' : Hp) : Prop := ∀ a o, a ∉ A → H a = some o → H' a = some o
abbrev Sm (H H' : Hp) : Prop := ∀ a o, H a = some o → H' a = some o
theorem Sm.x {A : List Addr} {H H' : Hp} (s : Sm H H') : SameX A H H' := fun a o _ e => s a o e
theorem Sm.refl (H : Hp) : Sm H H := fun _ _ e => e
theorem Sm.trans {H H1 H2 : Hp} (s : Sm H H1) (t : Sm H1 H2) : Sm H H2 := fun a o e => t a o (s a o e)
theorem Sm.new {H : Hp} {p : Addr} {o : HO} (h : H p = none) : Sm H (upd H p o) := fun a u e => by rw [upd_ne (ne_of_none e h)]; exact e
theorem SameX.refl (A : List Addr) (H : Hp) : SameX A H H := fun _ _ _ e => e
theorem SameX.trans {A : List Addr} {H H1 H2 : Hp} (s : SameX A H H1) (t : SameX A H1 H2) : SameX A H H2 := fun a o n e => t a o n (s a o n e)
theorem Sm.none {H H' : Hp} (s : Sm H H') {a : Addr} (h : H' a = none) : H a = none := by
  cases e : H a with
  | none => rfl
  | some o => rw [s a o e] at h; cases h

theorem TupS.x {A : List Addr} {H H' : Hp} {a : Addr} {vs : List V} (s : SameX A H H') (n : a ∉ A) (h : TupS H a vs) : TupS H' a vs := let ⟨o, e, q⟩ := h; ⟨o, s a _ n e, q⟩
theorem Rd.x {A : List Addr} {H H' : Hp} {a : Addr} {u : HO} (s : SameX A H H') (n : a ∉ A) (h : Rd H a u) : Rd H' a u := by
  rcases h with h | ⟨o, h⟩
  · exact .inl (s a _ n h)
  · exact .inr ⟨o, s a _ n h⟩
theorem LstS.x {A : List Addr} {H H' : Hp} {a : Addr} {vs : List V} (s : SameX A H H') (n : a ∉ A) (h : LstS H a vs) : LstS H' a vs := Rd.x s n h
theorem Rd.some {H : Hp} {a : Addr} {u : HO} (h : Rd H a u) : ∃ o, H a = some o := by
  rcases h with h | ⟨o, h⟩
  · exact ⟨_, h⟩
  · exact ⟨_, h⟩

mutual
theorem Rp.ext {A : List Addr} {H H' : Hp} (s : SameX A H H') : ∀ {d : D} {v : V}, Rp A H d v → Rp A H' d v
  | .non, _, h => h
  | .bl _, _, h => h
  | .int _, _, h => h
  | .str _, _, h => h
  | .raw _, _, h => h
  | .tup ds, v, h => by
    obtain ⟨a, vs, e, n, r, q⟩ := h
    exact ⟨a, vs, e, n, r.x s n, RpL.ext s q⟩
  | .lst ds, v, h => by
    obtain ⟨a, vs, e, n, r, q⟩ := h
    exact ⟨a, vs, e, n, r.x s n, RpL.ext s q⟩
  | .dic kvs, v, h => by
    obtain ⟨a, vs, e, n, r, q⟩ := h
    exact ⟨a, vs, e, n, Rd.x s n r, RpK.ext s q⟩
  | .ins C fs, v, h => by
    obtain ⟨a, dx, vs, e, n, r, q⟩ := h
    exact ⟨a, dx, vs, e, n, s _ _ n r, RpF.ext s q⟩
  | .exc C fs, v, h => by
    obtain ⟨a, dx, vs, e, n, m, r, r2, q⟩ := h
    exact ⟨a, dx, vs, e, n, m, s _ _ n r, s _ _ m r2, RpF.ext s q⟩
  | .clo L, v, h => by
    obtain ⟨a, c, e, n, m, r, r2⟩ := h
    exact ⟨a, c, e, n, m, s _ _ n r, s _ _ m r2⟩
theorem RpL.ext {A : List Addr} {H H' : Hp} (s : SameX A H H') : ∀ {ds : List D} {vs : List V}, RpL A H ds vs → RpL A H' ds vs
  | [], _, h => h
  | d :: ds, _, h => by
    obtain ⟨v, r, e, h1, h2⟩ := h
    exact ⟨v, r, e, Rp.ext s h1, RpL.ext s h2⟩
theorem RpK.ext {A : List Addr} {H H' : Hp} (s : SameX A H H') : ∀ {ds : List (Key × D)} {vs : List (Key × V)}, RpK A H ds vs → RpK A H' ds vs
  | [], _, h => h
  | (k, d) :: ds, _, h => by
    obtain ⟨v, r, e, h1, h2⟩ := h
    exact ⟨v, r, e, Rp.ext s h1, RpK.ext s h2⟩
theorem RpF.ext {A : List Addr} {H H' : Hp} (s : SameX A H H') : ∀ {ds : List (Str × D)} {vs : List (Str × V)}, RpF A H ds vs → RpF A H' ds vs
  | [], _, h => h
  | (k, d) :: ds, _, h => by
    obtain ⟨v, r, e, h1, h2⟩ := h
    exact ⟨v, r, e, Rp.ext s h1, RpF.ext s h2⟩
end
mutual
/-- other addresses not leant on: those in A' that stand are in A -/
theorem Rp.cut {A A' : List Addr} {H : Hp} (s : ∀ a ∈ A', a ∈ A ∨ H a = none) : ∀ {d : D} {v : V}, Rp A H d v → Rp A' H d v
  | .non, _, h => h
  | .bl _, _, h => h
  | .int _, _, h => h
  | .str _, _, h => h
  | .raw _, _, h => h
  | .tup ds, v, h => by
    obtain ⟨a, vs, e, n, r, q⟩ := h
    refine ⟨a, vs, e, fun z => ?_, r, RpL.cut s q⟩
    rcases s a z with y | y
    · exact n y
    · obtain ⟨u, hu⟩ := r.some; rw [hu] at y; cases y
  | .lst ds, v, h => by
    obtain ⟨a, vs, e, n, r, q⟩ := h
    refine ⟨a, vs, e, fun z => ?_, r, RpL.cut s q⟩
    rcases s a z with y | y
    · exact n y
    · obtain ⟨u, hu⟩ := Rd.some r; rw [hu] at y; cases y
  | .dic kvs, v, h => by
    obtain ⟨a, vs, e, n, r, q⟩ := h
    refine ⟨a, vs, e, fun z => ?_, r, RpK.cut s q⟩
    obtain ⟨o, ho⟩ := Rd.some r
    rcases s a z with y | y
    · exact n y
    · rw [ho] at y; cases y
  | .ins C fs, v, h => by
    obtain ⟨a, dx, vs, e, n, r, q⟩ := h
    refine ⟨a, dx, vs, e, fun z => ?_, r, RpF.cut s q⟩
    rcases s a z with y | y
    · exact n y
    · rw [r] at y; cases y
  | .exc C fs, v, h => by
    obtain ⟨a, dx, vs, e, n, m, r, r2, q⟩ := h
    refine ⟨a, dx, vs, e, fun z => ?_, fun z => ?_, r, r2, RpF.cut s q⟩
    · rcases s a z with y | y
      · exact n y
      · rw [r] at y; cases y
    · rcases s dx z with y | y
      · exact m y
      · rw [r2] at y; cases y
  | .clo L, v, h => by
    obtain ⟨a, c, e, n, m, r, r2⟩ := h
    refine ⟨a, c, e, fun z => ?_, fun z => ?_, r, r2⟩
    · rcases s a z with y | y
      · exact n y
      · rw [r] at y; cases y
    · rcases s _ z with y | y
      · exact m y
      · rw [r2] at y; cases y
theorem RpL.cut {A A' : List Addr} {H : Hp} (s : ∀ a ∈ A', a ∈ A ∨ H a = none) : ∀ {ds : List D} {vs : List V}, RpL A H ds vs → RpL A' H ds vs
  | [], _, h => h
  | d :: ds, _, h => by
    obtain ⟨v, r, e, h1, h2⟩ := h
    exact ⟨v, r, e, Rp.cut s h1, RpL.cut s h2⟩
theorem RpK.cut {A A' : List Addr} {H : Hp} (s : ∀ a ∈ A', a ∈ A ∨ H a = none) : ∀ {ds : List (Key × D)} {vs : List (Key × V)}, RpK A H ds vs → RpK A' H ds vs
  | [], _, h => h
  | (k, d) :: ds, _, h => by
    obtain ⟨v, r, e, h1, h2⟩ := h
    exact ⟨v, r, e, Rp.cut s h1, RpK.cut s h2⟩
theorem RpF.cut {A A' : List Addr} {H : Hp} (s : ∀ a ∈ A', a ∈ A ∨ H a = none) : ∀ {ds : List (Str × D)} {vs : List (Str × V)}, RpF A H ds vs → RpF A' H ds vs
  | [], _, h => h
  | (k, d) :: ds, _, h => by
    obtain ⟨v, r, e, h1, h2⟩ := h
    exact ⟨v, r, e, Rp.cut s h1, RpF.cut s h2⟩
end

theorem RpL.length {A : List Addr} {H : Hp} : ∀ {ds : List D} {vs : List V}, RpL A H ds vs → vs.length = ds.length
  | [], _, h => by rw [show _ = [] from h]; rfl
  | d :: ds, _, h => by
    obtain ⟨v, r, e, h1, h2⟩ := h
    rw [e, List.length_cons, List.length_cons, h2.length]
theorem RpL.get {A : List Addr} {H : Hp} : ∀ {ds : List D} {vs : List V}, RpL A H ds vs → ∀ {i : Nat} {d : D}, ds[i]? = some d → ∃ v, vs[i]? = some v ∧ Rp A H d v
  | [], _, _, i, d, e => by simp at e
  | x :: ds, _, h, i, d, e => by
    obtain ⟨v, r, rfl, h1, h2⟩ := h
    cases i with
    | zero => rw [List.getElem?_cons_zero] at e; cases e; exact ⟨v, rfl, h1⟩
    | succ i => rw [List.getElem?_cons_succ] at e; obtain ⟨w, e1, e2⟩ := h2.get e; exact ⟨w, by rw [List.getElem?_cons_succ]; exact e1, e2⟩
theorem RpL.getv {A : List Addr} {H : Hp} : ∀ {ds : List D} {vs : List V}, RpL A H ds vs → ∀ {i : Nat} {v : V}, vs[i]? = some v → ∃ d, ds[i]? = some d ∧ Rp A H d v
  | [], _, h, i, d, e => by rw [show _ = [] from h] at e; simp at e
  | x :: ds, _, h, i, d, e => by
    obtain ⟨v, r, rfl, h1, h2⟩ := h
    cases i with
    | zero => rw [List.getElem?_cons_zero] at e; cases e; exact ⟨x, rfl, h1⟩
    | succ i => rw [List.getElem?_cons_succ] at e; obtain ⟨w, e1, e2⟩ := h2.getv e; exact ⟨w, by rw [List.getElem?_cons_succ]; exact e1, e2⟩
theorem RpL.append {A : List Addr} {H : Hp} : ∀ {ds es : List D} {vs us : List V}, RpL A H ds vs → RpL A H es us → RpL A H (ds ++ es) (vs ++ us)
  | [], _, _, _, h, g => by rw [show _ = [] from h]; exact g
  | x :: ds, _, _, _, h, g => by
    obtain ⟨v, r, rfl, h1, h2⟩ := h
    exact ⟨v, r ++ _, rfl, h1, h2.append g⟩
theorem RpL.drop {A : List Addr} {H : Hp} : ∀ {ds : List D} {vs : List V} (n : Nat), RpL A H ds vs → RpL A H (ds.drop n) (vs.drop n)
  | _, _, 0, h => h
  | [], _, n + 1, h => by rw [show _ = [] from h]; exact rfl
  | x :: ds, _, n + 1, h => by
    obtain ⟨v, r, rfl, h1, h2⟩ := h
    exact h2.drop n
theorem RpL.take {A : List Addr} {H : Hp} : ∀ {ds : List D} {vs : List V} (n : Nat), RpL A H ds vs → RpL A H (ds.take n) (vs.take n)
  | _, _, 0, h => by rw [List.take_zero, List.take_zero]; exact rfl
  | [], _, n + 1, h => by rw [show _ = [] from h]; exact rfl
  | x :: ds, _, n + 1, h => by
    obtain ⟨v, r, rfl, h1, h2⟩ := h
    exact ⟨v, _, rfl, h1, h2.take n⟩
theorem RpL.one {A : List Addr} {H : Hp} {d : D} {v : V} (h : Rp A H d v) : RpL A H [d] [v] := ⟨v, [], rfl, h, rfl⟩
theorem RpL.reverse {A : List Addr} {H : Hp} : ∀ {ds : List D} {vs : List V}, RpL A H ds vs → RpL A H ds.reverse vs.reverse
  | [], _, h => by rw [show _ = [] from h]; exact rfl
  | x :: ds, _, h => by
    obtain ⟨v, r, rfl, h1, h2⟩ := h
    rw [List.reverse_cons, List.reverse_cons]
    exact h2.reverse.append (.one h1)
theorem RpL.set {A : List Addr} {H : Hp} {d : D} {v : V} (hd : Rp A H d v) : ∀ {ds : List D} {vs : List V} (n : Nat), RpL A H ds vs → RpL A H (ds.set n d) (vs.set n v)
  | [], _, n, h => by rw [show _ = [] from h]; exact rfl
  | x :: ds, _, 0, h => by
    obtain ⟨w, r, rfl, h1, h2⟩ := h
    exact ⟨v, r, rfl, hd, h2⟩
  | x :: ds, _, n + 1, h => by
    obtain ⟨w, r, rfl, h1, h2⟩ := h
    exact ⟨w, _, rfl, h1, h2.set hd n⟩
theorem RpL.eraseIdx {A : List Addr} {H : Hp} : ∀ {ds : List D} {vs : List V} (n : Nat), RpL A H ds vs → RpL A H (ds.eraseIdx n) (vs.eraseIdx n)
  | [], _, n, h => by rw [show _ = [] from h]; exact rfl
  | x :: ds, _, 0, h => by
    obtain ⟨w, r, rfl, h1, h2⟩ := h
    exact h2
  | x :: ds, _, n + 1, h => by
    obtain ⟨w, r, rfl, h1, h2⟩ := h
    exact ⟨w, _, rfl, h1, h2.eraseIdx n⟩

/-- addresses that may be written stand, and are no tuples and not locked -/
def isMut : HO → Bool
  | .lst _ => true
  | .dK _ => true
  | _ => false
def MutA (A : List Addr) (H : Hp) : Prop := ∀ a ∈ A, ∃ o, H a = some o ∧ isMut o = true
theorem MutA.ext {A : List Addr} {H H' : Hp} (m : MutA A H) (s : Sm H H') : MutA A H' := fun a h => by
  obtain ⟨o, e, q⟩ := m a h
  exact ⟨o, s _ _ e, q⟩
theorem MutA.new {A : List Addr} {H : Hp} {p : Addr} (m : MutA A H) (h : H p = none) : p ∉ A := fun z => by
  obtain ⟨o, e, _⟩ := m p z
  rw [h] at e; cases e
theorem MutA.nil (H : Hp) : MutA [] H := fun a h => by cases h
theorem MutA.tup {A : List Addr} {H : Hp} {a : Addr} {vs : List V} (m : MutA A H) (h : TupS H a vs) : a ∉ A := fun z => by
  obtain ⟨o, e, q⟩ := m a z
  obtain ⟨u, h, _⟩ := h
  rw [h] at e; cases e; cases q

/-- an owned thing at a -/
def Ow (A : List Addr) (H : Hp) : D → Addr → Prop
  | .lst ds, a => ∃ vs, H a = some (.lst vs) ∧ RpL A H ds vs
  | .dic kvs, a => ∃ vs, H a = some (.dK vs) ∧ RpK A H kvs vs
  | _, _ => False
/-- what may be looked at -/
def Vw (A : List Addr) (H : Hp) (d : D) (v : V) : Prop := Rp A H d v ∨ ∃ a, v = .ref a ∧ Ow A H d a
theorem Rp.vw {A : List Addr} {H : Hp} {d : D} {v : V} (h : Rp A H d v) : Vw A H d v := .inl h

/-- slots: data, or owned -/
inductive SV where
  | r (d : D)
  | o (d : D)
abbrev Rho := List (Option SV)
def SlOk (A : List Addr) (H : Hp) (σ : L2.St) (i : Nat) : SV → Prop
  | .r d => ∃ v, σ[i]? = some (some v) ∧ Rp A H d v
  | .o d => ∃ a, σ[i]? = some (some (.ref a)) ∧ a ∈ A ∧ Ow A H d a
/-- H0: the entry; B: what the caller excludes; A: what is excluded now -/
structure Sim (H0 : Hp) (B A : List Addr) (H : Hp) (σ : L2.St) (ρ : Rho) : Prop where
  len : ρ.length = σ.length
  same : Sm H0 H
  muts : MutA A H
  sub : ∀ a ∈ B, a ∈ A
  newA : ∀ a ∈ A, a ∈ B ∨ H0 a = none
  sl : ∀ (i : Nat) (x : SV), ρ[i]? = some (some x) → SlOk A H σ i x
  own : ∀ (i : Nat) (d : D), ρ[i]? = some (some (.o d)) → ∃ a, σ[i]? = some (some (.ref a)) ∧ a ∉ B
  dis : ∀ (i j : Nat) (d e : D) (a : Addr), ρ[i]? = some (some (.o d)) → ρ[j]? = some (some (.o e)) → σ[i]? = some (some (.ref a)) → σ[j]? = some (some (.ref a)) → i = j

theorem RpL.keep {A : List Addr} {H H' : Hp} {ds : List D} {vs : List V} (h : RpL A H ds vs) (s : Sm H H') : RpL A H' ds vs := h.ext s.x
theorem Ow.ext {A : List Addr} {H H' : Hp} {d : D} {a : Addr} (s : Sm H H') (h : Ow A H d a) : Ow A H' d a := by
  cases d with
  | lst ds => obtain ⟨vs, e, q⟩ := h; exact ⟨vs, s _ _ e, q.ext s.x⟩
  | dic kvs => obtain ⟨vs, e, q⟩ := h; exact ⟨vs, s _ _ e, q.ext s.x⟩
  | _ => exact h.elim
theorem Vw.ext {A : List Addr} {H H' : Hp} {d : D} {v : V} (s : Sm H H') (h : Vw A H d v) : Vw A H' d v := by
  rcases h with h | ⟨a, e, h⟩
  · exact .inl (h.ext s.x)
  · exact .inr ⟨a, e, h.ext s⟩
theorem SlOk.ext {A : List Addr} {H H' : Hp} {σ : L2.St} {i : Nat} {x : SV} (s : Sm H H') (h : SlOk A H σ i x) : SlOk A H' σ i x := by
  cases x with
  | r d => obtain ⟨v, e, q⟩ := h; exact ⟨v, e, q.ext s.x⟩
  | o d => obtain ⟨a, e, m, q⟩ := h; exact ⟨a, e, m, q.ext s⟩
theorem Sim.ext {H0 : Hp} {B A : List Addr} {H H' : Hp} {σ : L2.St} {ρ : Rho} (h : Sim H0 B A H σ ρ) (s : Sm H H') : Sim H0 B A H' σ ρ :=
  ⟨h.len, h.same.trans s, h.muts.ext s, h.sub, h.newA, fun i x e => (h.sl i x e).ext s, h.own, h.dis⟩

/-- a datum whose representation leans on tuples alone -/
def D.flat : D → Bool
  | .tup ds => go ds
  | .lst _ => false
  | .dic _ => false
  | .ins _ _ => false
  | .exc _ _ => false
  | .clo _ => false
  | _ => true
where go : List D → Bool
  | [] => true
  | d :: ds => d.flat && go ds
mutual
theorem Rp.flat {A A' : List Addr} {H : Hp} (m : MutA A' H) : ∀ {d : D} {v : V}, d.flat = true → Rp A H d v → Rp A' H d v
  | .non, _, _, h => h
  | .bl _, _, _, h => h
  | .int _, _, _, h => h
  | .str _, _, _, h => h
  | .raw _, _, _, h => h
  | .tup ds, v, f, h => by
    obtain ⟨a, vs, e, n, r, q⟩ := h
    rw [D.flat] at f
    exact ⟨a, vs, e, m.tup r, r, RpL.flat m f q⟩
  | .lst ds, v, f, h => by rw [D.flat] at f; cases f
  | .dic ds, v, f, h => by rw [D.flat] at f; cases f
  | .ins C ds, v, f, h => by rw [D.flat] at f; cases f
  | .exc C ds, v, f, h => by rw [D.flat] at f; cases f
  | .clo L, v, f, h => by rw [D.flat] at f; cases f
theorem RpL.flat {A A' : List Addr} {H : Hp} (m : MutA A' H) : ∀ {ds : List D} {vs : List V}, D.flat.go ds = true → RpL A H ds vs → RpL A' H ds vs
  | [], _, _, h => h
  | d :: ds, _, f, h => by
    obtain ⟨v, r, e, h1, h2⟩ := h
    rw [D.flat.go, Bool.and_eq_true] at f
    exact ⟨v, r, e, Rp.flat m f.1 h1, RpL.flat m f.2 h2⟩
end
theorem RpL.vw_nil {A : List Addr} {H : Hp} {ds : List D} {vs : List V} (h : RpL A H ds vs) : RpL [] H ds vs := h.cut fun a m => by cases m
theorem Vw.nil {A : List Addr} {H : Hp} {d : D} {v : V} (h : Vw A H d v) : Rp [] H d v := by
  rcases h with h | ⟨a, e, h⟩
  · exact h.cut fun a m => by cases m
  · cases d with
    | lst ds => obtain ⟨vs, e1, q⟩ := h; exact ⟨a, vs, e, by simp, .inl e1, q.cut fun a m => by cases m⟩
    | dic kvs => obtain ⟨vs, e1, q⟩ := h; exact ⟨a, vs, e, by simp, .inl e1, q.cut fun a m => by cases m⟩
    | _ => exact h.elim
end LY
set_option Elab.async false
set_option linter.all false
set_option maxRecDepth 100000
set_option maxHeartbeats 1000000
/-! LY2: data compared; quiet expressions -/
namespace LY
open PySem PySem.Spec PyProof.Rows L2

/-! ### data as PyData -/
mutual
def D.py : D → PyData
  | .non => .none
  | .bl b => .bool b
  | .int i => .int i
  | .str x => .str x
  | .raw _ => .none
  | .tup ds => .tuple (D.pys ds)
  | .lst ds => .list (D.pys ds)
  | .dic _ => .none
  | .ins _ _ => .none
  | .exc _ _ => .none
  | .clo _ => .none
def D.pys : List D → List PyData
  | [] => []
  | d :: ds => d.py :: D.pys ds
end
/-- plain data of depth n at most -/
def D.ok : Nat → D → Bool
  | _, .non => true
  | _, .bl _ => true
  | _, .int _ => true
  | _, .str x => PyData.strOk x
  | n + 1, .tup ds => ds.all (D.ok n)
  | n + 1, .lst ds => ds.all (D.ok n)
  | _, _ => false
mutual
def D.eqv : D → D → Bool
  | .non, .non => true
  | .bl a, .bl b => a == b
  | .bl a, .int j => (if a then 1 else 0) == j
  | .int i, .bl b => i == (if b then 1 else 0)
  | .int i, .int j => i == j
  | .str x, .str y => x == y
  | .lst xs, .lst ys => D.eqvs xs ys
  | .tup xs, .tup ys => D.eqvs xs ys
  | _, _ => false
def D.eqvs : List D → List D → Bool
  | [], [] => true
  | x :: xs, y :: ys => D.eqv x y && D.eqvs xs ys
  | _, _ => false
end
theorem D.pys_map (ds : List D) : D.pys ds = ds.map D.py := by
  induction ds with
  | nil => rfl
  | cons d ds ih => rw [D.pys, ih, List.map_cons]
theorem D.ok_lay : ∀ (n : Nat) (d : D), d.ok n = true → d.py.canLay0 = true ∧ d.py.depth ≤ n := by
  have all : ∀ (n : Nat), (∀ d : D, d.ok n = true → d.py.canLay0 = true ∧ d.py.depth ≤ n) → ∀ ds : List D, ds.all (D.ok n) = true → PyData.canLayAll0 (D.pys ds) = true ∧ PyData.depthAll (D.pys ds) ≤ n := by
    intro n ih ds
    induction ds with
    | nil => intro _; exact ⟨rfl, Nat.zero_le _⟩
    | cons d ds ih2 =>
      intro h
      rw [List.all_cons, Bool.and_eq_true] at h
      obtain ⟨a, b⟩ := ih d h.1
      obtain ⟨a2, b2⟩ := ih2 h.2
      rw [D.pys, PyData.canLayAll0, PyData.depthAll, a, a2]
      exact ⟨rfl, Nat.max_le.mpr ⟨b, b2⟩⟩
  intro n
  induction n with
  | zero =>
    intro d h
    cases d <;> first | (simp [D.ok] at h; done) | (refine ⟨?_, Nat.le_of_eq ?_⟩ <;> first | rfl | (simp only [D.py, PyData.canLay0, PyData.depth]; done) | (simp only [D.py, PyData.canLay0]; simpa [D.ok] using h))
  | succ n ih =>
    intro d h
    cases d with
    | tup ds =>
      obtain ⟨a, b⟩ := all n ih ds (by simpa [D.ok] using h)
      rw [D.py, PyData.canLay0, PyData.depth]
      exact ⟨a, Nat.succ_le_succ b⟩
    | lst ds =>
      obtain ⟨a, b⟩ := all n ih ds (by simpa [D.ok] using h)
      rw [D.py, PyData.canLay0, PyData.depth]
      exact ⟨a, Nat.succ_le_succ b⟩
    | str x => exact ⟨by simp only [D.py, PyData.canLay0]; simpa [D.ok] using h, by simp [D.py, PyData.depth]⟩
    | non => exact ⟨by simp [D.py, PyData.canLay0], by simp [D.py, PyData.depth]⟩
    | bl b => exact ⟨by simp [D.py, PyData.canLay0], by simp [D.py, PyData.depth]⟩
    | int b => exact ⟨by simp [D.py, PyData.canLay0], by simp [D.py, PyData.depth]⟩
    | _ => simp [D.ok] at h
theorem D.shaped {d : D} (h : d.ok 60 = true) : SeqAt.shaped d.py = true := by
  obtain ⟨a, b⟩ := D.ok_lay 60 d h
  unfold SeqAt.shaped
  rw [a, Bool.true_and]
  exact decide_eq_true (Nat.le_trans b (by decide))
theorem D.eqv_py : ∀ (n : Nat) (x y : D), x.ok n = true → y.ok n = true → PyData.eqv x.py y.py = D.eqv x y := by
  have all : ∀ (n : Nat), (∀ x y : D, x.ok n = true → y.ok n = true → PyData.eqv x.py y.py = D.eqv x y) → ∀ xs ys : List D, xs.all (D.ok n) = true → ys.all (D.ok n) = true → PyData.eqvAll (D.pys xs) (D.pys ys) = D.eqvs xs ys := by
    intro n ih xs
    induction xs with
    | nil => intro ys _ _; cases ys <;> simp [D.pys, PyData.eqvAll, D.eqvs]
    | cons x xs ih2 =>
      intro ys hx hy
      cases ys with
      | nil => simp [D.pys, PyData.eqvAll, D.eqvs]
      | cons y ys =>
        rw [List.all_cons, Bool.and_eq_true] at hx hy
        rw [D.pys, D.pys, PyData.eqvAll, D.eqvs, ih x y hx.1 hy.1, ih2 ys hx.2 hy.2]
  intro n
  induction n with
  | zero =>
    intro x y hx hy
    cases x <;> cases y <;> first | (simp [D.ok] at hx; done) | (simp [D.ok] at hy; done) | simp [D.py, PyData.eqv, D.eqv]
  | succ n ih =>
    intro x y hx hy
    cases x <;> cases y <;> first
      | (simp [D.ok] at hx; done) | (simp [D.ok] at hy; done)
      | (simp only [D.py, PyData.eqv, D.eqv]; exact all n ih _ _ (by simpa only [D.ok] using hx) (by simpa only [D.ok] using hy))
      | simp [D.py, PyData.eqv, D.eqv]
section
variable {K : PySem.W.Frag} {A : List Addr} {H : Hp}
theorem RpL.dp_of {n : Nat} (ih : ∀ (d : D) (v : V), d.ok n = true → Rp A H d v → Dp K H v d.py) : ∀ (ds : List D) (vs : List V), ds.all (D.ok n) = true → RpL A H ds vs → DpAll K H vs (D.pys ds)
  | [], vs, _, h => by rw [show vs = [] from h]; exact .nil
  | d :: ds, vs, hk, h => by
    obtain ⟨v, r, rfl, h1, h2⟩ := h
    rw [List.all_cons, Bool.and_eq_true] at hk
    exact .cons (ih d v hk.1 h1) (RpL.dp_of ih ds r hk.2 h2)
theorem Rp.dp : ∀ (n : Nat) (d : D) (v : V), d.ok n = true → Rp A H d v → Dp K H v d.py := by
  intro n
  induction n with
  | zero =>
    intro d v h r
    cases d with
    | non => rw [show v = .non from r]; exact .non
    | bl b => rw [show v = .bl b from r]; exact .bl b
    | int b => rw [show v = .int b from r]; exact .int b
    | str b => rw [show v = .str b from r]; exact .str b
    | _ => simp [D.ok] at h
  | succ n ih =>
    intro d v h r
    cases d with
    | non => rw [show v = .non from r]; exact .non
    | bl b => rw [show v = .bl b from r]; exact .bl b
    | int b => rw [show v = .int b from r]; exact .int b
    | str b => rw [show v = .str b from r]; exact .str b
    | tup ds =>
      obtain ⟨a, vs, rfl, _, e, q⟩ := r
      rw [D.py]
      exact .tup e.sq (RpL.dp_of ih ds vs (by simpa [D.ok] using h) q)
    | lst ds =>
      obtain ⟨a, vs, rfl, _, e, q⟩ := r
      rw [D.py]
      exact .lst e.sq (RpL.dp_of ih ds vs (by simpa [D.ok] using h) q)
    | _ => simp [D.ok] at h
theorem Vw.dp {n : Nat} {d : D} {v : V} (h : d.ok n = true) (r : Vw A H d v) : Dp K H v d.py := Rp.dp n d v h r.nil
theorem RpL.strs {ss : List Str} : ∀ {vs : List V}, RpL A H (ss.map D.str) vs → vs = ss.map V.str := by
  induction ss with
  | nil => intro vs h; exact h
  | cons s ss ih =>
    intro vs h
    obtain ⟨v, r, rfl, h1, h2⟩ := h
    rw [List.map_cons, ← ih h2, show v = .str s from h1]
theorem RpL.ints {ss : List Int} : ∀ {vs : List V}, RpL A H (ss.map D.int) vs → vs = ss.map V.int := by
  induction ss with
  | nil => intro vs h; exact h
  | cons s ss ih =>
    intro vs h
    obtain ⟨v, r, rfl, h1, h2⟩ := h
    rw [List.map_cons, ← ih h2, show v = .int s from h1]
theorem RpL.bls {ss : List Bool} : ∀ {vs : List V}, RpL A H (ss.map D.bl) vs → vs = ss.map V.bl := by
  induction ss with
  | nil => intro vs h; exact h
  | cons s ss ih =>
    intro vs h
    obtain ⟨v, r, rfl, h1, h2⟩ := h
    rw [List.map_cons, ← ih h2, show v = .bl s from h1]
/-- the items of a list or a tuple that is looked at -/
def D.items : D → Option (List D)
  | .lst ds => some ds
  | .tup ds => some ds
  | _ => none
theorem Vw.items {d : D} {v : V} {ds : List D} (h : Vw A H d v) (e : d.items = some ds) : ∃ a vs, v = .ref a ∧ (LstS H a vs ∨ TupS H a vs) ∧ RpL A H ds vs := by
  cases d with
  | lst xs =>
    cases e
    rcases h with ⟨a, vs, rfl, _, q, r⟩ | ⟨a, rfl, vs, q, r⟩
    · exact ⟨a, vs, rfl, .inl q, r⟩
    · exact ⟨a, vs, rfl, .inl (.inl q), r⟩
  | tup xs =>
    cases e
    rcases h with ⟨a, vs, rfl, _, q, r⟩ | ⟨a, rfl, q⟩
    · exact ⟨a, vs, rfl, .inr q, r⟩
    · exact q.elim
  | _ => cases e
theorem Vw.lst {v : V} {ds : List D} (h : Vw A H (.lst ds) v) : ∃ a vs, v = .ref a ∧ LstS H a vs ∧ RpL A H ds vs := by
  rcases h with ⟨a, vs, rfl, _, q, r⟩ | ⟨a, rfl, vs, q, r⟩
  · exact ⟨a, vs, rfl, q, r⟩
  · exact ⟨a, vs, rfl, .inl q, r⟩
theorem Vw.tup {v : V} {ds : List D} (h : Vw A H (.tup ds) v) : ∃ a vs, v = .ref a ∧ a ∉ A ∧ TupS H a vs ∧ RpL A H ds vs := by
  rcases h with ⟨a, vs, rfl, n, q, r⟩ | ⟨a, rfl, q⟩
  · exact ⟨a, vs, rfl, n, q, r⟩
  · exact q.elim
theorem Vw.str {v : V} {x : Str} (h : Vw A H (.str x) v) : v = .str x := by
  rcases h with h | ⟨a, rfl, q⟩
  · exact h
  · exact q.elim
theorem Vw.int {v : V} {x : Int} (h : Vw A H (.int x) v) : v = .int x := by
  rcases h with h | ⟨a, rfl, q⟩
  · exact h
  · exact q.elim
theorem Vw.bl {v : V} {x : Bool} (h : Vw A H (.bl x) v) : v = .bl x := by
  rcases h with h | ⟨a, rfl, q⟩
  · exact h
  · exact q.elim
theorem Vw.non {v : V} (h : Vw A H .non v) : v = .non := by
  rcases h with h | ⟨a, rfl, q⟩
  · exact h
  · exact q.elim
/-- a new list, a new tuple -/
theorem Rp.newL {ds : List D} {vs : List V} {p : Addr} (m : MutA A H) (h : RpL A H ds vs) (n : H p = none) : Rp A (upd H p (.lst vs)) (.lst ds) (.ref p) :=
  ⟨p, vs, rfl, m.new n, .of upd_same, h.ext (Sm.new n).x⟩
theorem Rp.newT {ds : List D} {vs : List V} {p : Addr} {o : Obj} (m : MutA A H) (h : RpL A H ds vs) (n : H p = none) (hd : o.dict = none) : Rp A (upd H p (.frz o (.tup vs))) (.tup ds) (.ref p) :=
  ⟨p, vs, rfl, m.new n, TupS.new hd, h.ext (Sm.new n).x⟩
end

theorem RpL.addNew {A : List Addr} {H : Hp} {ds : List D} {vs : List V} {p : Addr} (h : RpL A H ds vs) (hp : H p = none) : RpL (p :: A) H ds vs := h.cut fun a ha => by
  rcases List.mem_cons.mp ha with rfl | ha
  · exact .inr hp
  · exact .inl ha
/-! ### readings -/
abbrev Den := Rho → Option D
def tE (g : Den) : TE := fun σ H Q => ∃ H0 B A ρ d, Sim H0 B A H σ ρ ∧ g ρ = some d ∧ ∀ v H', Sm H H' → Rp A H' d v → Q v H'
def tV (g : Den) : TE := fun σ H Q => ∃ H0 B A ρ d, Sim H0 B A H σ ρ ∧ g ρ = some d ∧ ∀ v H', Sm H H' → Vw A H' d v → Q v H'
/-- a new list -/
def tF (g : Rho → Option (List D)) : TE := fun σ H Q => ∃ H0 B A ρ ds, Sim H0 B A H σ ρ ∧ g ρ = some ds ∧ ∀ p vs H', Sm H H' → H p = none → H' p = some (.lst vs) → RpL (p :: A) H' ds vs → Q (.ref p) H'
def tBo (g : Rho → Option Bool) : TT := fun σ H Q => ∃ H0 B A ρ b, Sim H0 B A H σ ρ ∧ g ρ = some b ∧ ∀ H', Sm H H' → Q b H'
def tL (g : Rho → Option (List D)) : TA := fun σ H Q => ∃ H0 B A ρ ds, Sim H0 B A H σ ρ ∧ g ρ = some ds ∧ ∀ vs H', Sm H H' → RpL A H' ds vs → Q vs H'
/-- arguments looked at: each is a view -/
def VwL (A : List Addr) (H : Hp) : List D → List V → Prop
  | [], vs => vs = []
  | d :: ds, vs => ∃ v r, vs = v :: r ∧ Vw A H d v ∧ VwL A H ds r
def tLV (g : Rho → Option (List D)) : TA := fun σ H Q => ∃ H0 B A ρ ds, Sim H0 B A H σ ρ ∧ g ρ = some ds ∧ ∀ vs H', Sm H H' → VwL A H' ds vs → Q vs H'
theorem VwL.ext {A : List Addr} {H H' : Hp} (s : Sm H H') : ∀ {ds : List D} {vs : List V}, VwL A H ds vs → VwL A H' ds vs
  | [], _, h => h
  | d :: ds, _, h => by
    obtain ⟨v, r, e, h1, h2⟩ := h
    exact ⟨v, r, e, h1.ext s, h2.ext s⟩
theorem VwL.nil' {A : List Addr} {H : Hp} : ∀ {ds : List D} {vs : List V}, VwL A H ds vs → RpL [] H ds vs
  | [], _, h => h
  | d :: ds, _, h => by
    obtain ⟨v, r, e, h1, h2⟩ := h
    exact ⟨v, r, e, h1.nil, h2.nil'⟩

theorem bind2 {α β γ : Type} {a : Option α} {b : Option β} {f : α → β → Option γ} {c : γ} (h : (a.bind fun x => b.bind fun y => f x y) = some c) : ∃ x y, a = some x ∧ b = some y ∧ f x y = some c := by
  cases a with
  | none => cases h
  | some x => cases b with
    | none => cases h
    | some y => exact ⟨x, y, rfl, rfl, h⟩
theorem bind1 {α γ : Type} {a : Option α} {f : α → Option γ} {c : γ} (h : (a.bind fun x => f x) = some c) : ∃ x, a = some x ∧ f x = some c := by
  cases a with
  | none => cases h
  | some x => exact ⟨x, rfl, h⟩
section
variable {X : Cx}
abbrev QE (X : Cx) (e : Expr) (g : Den) : Prop := PE X e (tE g)
abbrev QV (X : Cx) (e : Expr) (g : Den) : Prop := PE X e (tV g)
abbrev QF (X : Cx) (e : Expr) (g : Rho → Option (List D)) : Prop := PE X e (tF g)
abbrev QT (X : Cx) (e : Expr) (g : Rho → Option Bool) : Prop := PT X e (tBo g)
abbrev QL (X : Cx) (es : List Expr) (g : Rho → Option (List D)) : Prop := PA X es (tL g)
abbrev QLV (X : Cx) (es : List Expr) (g : Rho → Option (List D)) : Prop := PA X es (tLV g)
theorem _root_.L2.PE.imp {e : Expr} {t t' : TE} (h : PE X e t) (w : ∀ σ H Q, t' σ H Q → t σ H Q) : PE X e t' := ⟨fun pins s σ H Q I x => h.run pins s σ H Q I (w _ _ _ x)⟩
theorem _root_.L2.PT.imp {e : Expr} {t t' : TT} (h : PT X e t) (w : ∀ σ H Q, t' σ H Q → t σ H Q) : PT X e t' := ⟨fun pins s σ H Q I x => h.run pins s σ H Q I (w _ _ _ x)⟩
theorem _root_.L2.PA.imp {es : List Expr} {t t' : TA} (h : PA X es t) (w : ∀ σ H Q, t' σ H Q → t σ H Q) : PA X es t' := ⟨fun pos pins s σ H Q I x => h.run pos pins s σ H Q I (w _ _ _ x)⟩
theorem _root_.L2.PS.imp {st : Stmt} {t t' : TS} (h : PS X st t) (w : ∀ D σ H, t' D σ H → t D σ H) : PS X st t' := ⟨fun pins s σ H D I x => h.run pins s σ H D I (w _ _ _ x)⟩
theorem _root_.L2.PSs.imp {st : List Stmt} {t t' : TS} (h : PSs X st t) (w : ∀ D σ H, t' D σ H → t D σ H) : PSs X st t' := ⟨fun pins s σ H D I x => h.run pins s σ H D I (w _ _ _ x)⟩
/-- a new list is a datum; a datum is a view -/
theorem QE.v {e : Expr} {g : Den} (h : QE X e g) : QV X e g := h.imp fun σ H Q ⟨H0, B, A, ρ, d, S, e, k⟩ => ⟨H0, B, A, ρ, d, S, e, fun v H' s r => k v H' s r.vw⟩
def dLst (g : Rho → Option (List D)) : Den := fun ρ => (g ρ).bind fun ds => some (.lst ds)
def dFlat (g : Den) : Den := fun ρ => (g ρ).bind fun d => if d.flat = true then some d else none
theorem QF.e {e : Expr} {g : Rho → Option (List D)} (h : QF X e g) : QE X e (dLst g) := h.imp fun σ H Q ⟨H0, B, A, ρ, d, S, q, k⟩ => by
  obtain ⟨ds, e1, e2⟩ := bind1 q
  cases e2
  exact ⟨H0, B, A, ρ, ds, S, e1, fun p vs H' s n e r => k _ H' s ⟨p, vs, rfl, S.muts.new n, .of e, r.cut fun a ha => .inl (List.mem_cons_of_mem _ ha)⟩⟩
theorem QF.v {e : Expr} {g : Rho → Option (List D)} (h : QF X e g) : QV X e (dLst g) := QE.v (QF.e h)
/-- a flat view is a datum -/
theorem QV.e {e : Expr} {g : Den} (h : QV X e g) : QE X e (dFlat g) := h.imp fun σ H Q ⟨H0, B, A, ρ, d, S, q, k⟩ => by
  obtain ⟨x, e1, e2⟩ := bind1 q
  split at e2
  · cases e2
    rename_i hf
    exact ⟨H0, B, A, ρ, _, S, e1, fun v H' s r => k v H' s (r.nil.flat (S.muts.ext s) hf)⟩
  · cases e2

/-! ### names, constants -/
def dName (i : Nat) : Den := fun ρ => match ρ[i]? with
  | some (some (.r d)) => some d
  | _ => none
def dNameV (i : Nat) : Den := fun ρ => match ρ[i]? with
  | some (some (.r d)) => some d
  | some (some (.o d)) => some d
  | _ => none
def dK (d : D) : Den := fun _ => some d
theorem q_name {i : Nat} {x : Str} {pos : Pos} (hN : X.N[i]? = some x) (hv : Vis X.env.scope x) (hd : (x == ("__debug__" : Str)) = false := by decide) (hcd : (x == ("__classdict__" : Str)) = false := by decide) : QE X (.Name x pos) (dName i) :=
  (pe_var hN hv hd hcd).imp fun σ H Q ⟨H0, B, A, ρ, d, S, e, k⟩ => by
    unfold dName at e
    split at e
    · cases e
      rename_i q
      obtain ⟨v, hv, r⟩ := S.sl i _ q
      exact ⟨v, hv, k v H (Sm.refl H) r⟩
    · cases e
theorem v_name {i : Nat} {x : Str} {pos : Pos} (hN : X.N[i]? = some x) (hv : Vis X.env.scope x) (hd : (x == ("__debug__" : Str)) = false := by decide) (hcd : (x == ("__classdict__" : Str)) = false := by decide) : QV X (.Name x pos) (dNameV i) :=
  (pe_var hN hv hd hcd).imp fun σ H Q ⟨H0, B, A, ρ, d, S, e, k⟩ => by
    unfold dNameV at e
    split at e
    · cases e
      rename_i q
      obtain ⟨v, hv, r⟩ := S.sl i _ q
      exact ⟨v, hv, k v H (Sm.refl H) (.inl r)⟩
    · cases e
      rename_i q
      obtain ⟨a, hv, _, r⟩ := S.sl i _ q
      exact ⟨.ref a, hv, k _ H (Sm.refl H) (.inr ⟨a, rfl, r⟩)⟩
    · cases e
theorem q_const {e : Expr} {v : V} {d : D} (h : PE X e (tC v)) (r : ∀ A H, Rp A H d v) : QE X e (dK d) := h.imp fun σ H Q ⟨H0, B, A, ρ, d', S, e, k⟩ => by
  cases e
  exact k v H (Sm.refl H) (r _ _)
theorem q_int {i j pos} : QE X (.Constant (.int i) j pos) (dK (.int i)) := q_const pe_int fun _ _ => rfl
theorem q_bl {i j pos} : QE X (.Constant (.bool i) j pos) (dK (.bl i)) := q_const pe_bl fun _ _ => rfl
theorem q_non {j pos} : QE X (.Constant .none j pos) (dK .non) := q_const pe_non fun _ _ => rfl
theorem q_str {i j pos} : QE X (.Constant (.str i) j pos) (dK (.str i)) := q_const pe_str fun _ _ => rfl
theorem q_gint {x : Str} {i : Int} {pos : Pos} (hg : Gl X x) (hm : ∃ t, X.mg x = some (.int i t)) (hd : (x == ("__debug__" : Str)) = false := by decide) : QE X (.Name x pos) (dK (.int i)) :=
  let ⟨t, ht⟩ := hm; q_const (pe_glob (v := .int i) hg ht ⟨t, rfl⟩ hd) fun _ _ => rfl
theorem q_gstr {x : Str} {i : Str} {pos : Pos} (hg : Gl X x) (hm : ∃ t, X.mg x = some (.str i t)) (hd : (x == ("__debug__" : Str)) = false := by decide) : QE X (.Name x pos) (dK (.str i)) :=
  let ⟨t, ht⟩ := hm; q_const (pe_glob (v := .str i) hg ht ⟨t, rfl⟩ hd) fun _ _ => rfl

/-! ### argument lists -/
def dNil : Rho → Option (List D) := fun _ => some []
def dCons (g : Den) (h : Rho → Option (List D)) : Rho → Option (List D) := fun ρ => (g ρ).bind fun d => (h ρ).bind fun ds => some (d :: ds)
theorem ql_nil : QL X [] dNil := pa_nil.imp fun σ H Q ⟨H0, B, A, ρ, ds, S, e, k⟩ => by
  cases e
  exact k [] H (Sm.refl H) rfl
theorem qlv_nil : QLV X [] dNil := pa_nil.imp fun σ H Q ⟨H0, B, A, ρ, ds, S, e, k⟩ => by
  cases e
  exact k [] H (Sm.refl H) rfl
theorem ql_cons {e : Expr} {es : List Expr} {g : Den} {h : Rho → Option (List D)} (he : QE X e g) (hr : QL X es h) (hs : starEach (e :: es) X.env = (false, eval e X.env) :: starEach es X.env := by rfl) : QL X (e :: es) (dCons g h) :=
  (pa_cons he hr hs).imp fun σ H Q ⟨H0, B, A, ρ, ds, S, q, k⟩ => by
    obtain ⟨d, ds', e1, e2, e3⟩ := bind2 q
    cases e3
    exact ⟨H0, B, A, ρ, d, S, e1, fun v H1 s1 r1 => ⟨H0, B, A, ρ, ds', S.ext s1, e2, fun vs H2 s2 r2 => k _ H2 (s1.trans s2) ⟨v, vs, rfl, r1.ext s2.x, r2⟩⟩⟩
theorem qlv_cons {e : Expr} {es : List Expr} {g : Den} {h : Rho → Option (List D)} (he : QV X e g) (hr : QLV X es h) (hs : starEach (e :: es) X.env = (false, eval e X.env) :: starEach es X.env := by rfl) : QLV X (e :: es) (dCons g h) :=
  (pa_cons he hr hs).imp fun σ H Q ⟨H0, B, A, ρ, ds, S, q, k⟩ => by
    obtain ⟨d, ds', e1, e2, e3⟩ := bind2 q
    cases e3
    exact ⟨H0, B, A, ρ, d, S, e1, fun v H1 s1 r1 => ⟨H0, B, A, ρ, ds', S.ext s1, e2, fun vs H2 s2 r2 => k _ H2 (s1.trans s2) ⟨v, vs, rfl, r1.ext s2, r2⟩⟩⟩

/-! ### displays -/
def dTup (g : Rho → Option (List D)) : Den := fun ρ => (g ρ).bind fun ds => if ds.length ≤ 1000 then some (.tup ds) else none
def dDisp (g : Rho → Option (List D)) : Rho → Option (List D) := fun ρ => (g ρ).bind fun ds => if ds.length ≤ 1000 then some ds else none
/-- a tuple display: its object is known to have no dict -/
def tTupS (t : TA) : TE := fun σ H Q => t σ H fun vs H1 => vs.length ≤ sizeLine ∧ ∀ (p : Addr) (o : Obj), H1 p = none → o.dict = none → Q (.ref p) (upd H1 p (.frz o (.tup vs)))
theorem pe_tupS {es : List Expr} {t : TA} {k : Nat} {pos : Pos} (h : PA X es t) : PE X (.Tuple es k pos) (tTupS t) := by
  refine ⟨fun pins s σ H Q I hq => ?_⟩
  refine wpAny_Tuple_spliced (thn (h.run pos pins s σ H _ I hq) fun us s1 ⟨xs, H1, I1, r, z, q⟩ => ⟨by rw [← r.length]; exact z, ?_⟩)
  have hf : H1 s1.heap.objs.size = none := I1.hok.fresh (Nat.le_refl _)
  refine ⟨.ref s1.heap.objs.size, upd H1 s1.heap.objs.size (.frz { cls := .type "tuple", data := .seq us.toArray } (.tup xs)), I1.laid (t' := s1.toks) (fun b u e => Heap.get?_push_of_some _ e) (Nat.le_refl _) ?_, rfl, q _ _ hf rfl⟩
  exact ⟨Heap.get?_push_size _ rfl, z, us, r, ⟨_, Heap.get?_push_size _ rfl, rfl, _, rfl⟩⟩
theorem q_tup {es : List Expr} {k : Nat} {pos : Pos} {g : Rho → Option (List D)} (h : QL X es g) : QE X (.Tuple es k pos) (dTup g) :=
  (pe_tupS h).imp fun σ H Q ⟨H0, B, A, ρ, d, S, q, k⟩ => by
    obtain ⟨ds, e1, e2⟩ := bind1 q
    split at e2
    · cases e2
      rename_i hl
      refine ⟨H0, B, A, ρ, ds, S, e1, fun vs H1 s1 r1 => ⟨by rw [r1.length, sizeLine_eq]; omega, fun p u hp hu => ?_⟩⟩
      exact k _ _ (s1.trans (Sm.new hp)) (Rp.newT (S.muts.ext s1) r1 hp hu)
    · cases e2
theorem f_lst {es : List Expr} {pos : Pos} {g : Rho → Option (List D)} (h : QL X es g) : QF X (.List es pos) (dDisp g) :=
  (pe_lst h).imp fun σ H Q ⟨H0, B, A, ρ, d, S, q, k⟩ => by
    obtain ⟨ds, e1, e2⟩ := bind1 q
    split at e2
    · cases e2
      rename_i hl
      refine ⟨H0, B, A, ρ, d, S, e1, fun vs H1 s1 r1 => ⟨by rw [r1.length, sizeLine_eq]; omega, fun p hp => ?_⟩⟩
      exact k p vs _ (s1.trans (Sm.new hp)) (s1.none hp) upd_same ((r1.addNew hp).ext (Sm.new hp).x)
    · cases e2

/-! ### operators -/
/-- a two-place operator on views that gives a datum -/
def B2 (r : R2) (F : D → D → Option D) : Prop := ∀ (A : List Addr) (H : Hp) (x y : D) (v w : V) (Q : VK) (d : D), MutA A H → Vw A H x v → Vw A H y w → F x y = some d → (∀ u H', Sm H H' → Rp A H' d u → Q u H') → r v w H Q
def d2 (F : D → D → Option D) (g h : Den) : Den := fun ρ => (g ρ).bind fun x => (h ρ).bind fun y => F x y
theorem t2_of {r : R2} {F : D → D → Option D} (b : B2 r F) {g h : Den} {σ : L2.St} {H : Hp} {Q : VK} (w : tE (d2 F g h) σ H Q) : tOp r (tV g) (tV h) σ H Q := by
  obtain ⟨H0, B, A, ρ, d, S, q, k⟩ := w
  obtain ⟨x, y, e1, e2, e3⟩ := bind2 q
  exact ⟨H0, B, A, ρ, x, S, e1, fun v H1 s1 r1 => ⟨H0, B, A, ρ, y, S.ext s1, e2, fun u H2 s2 r2 => b A H2 x y v u Q d ((S.muts.ext s1).ext s2) (r1.ext s2) r2 e3 fun z H3 s3 r3 => k z H3 ((s1.trans s2).trans s3) r3⟩⟩
theorem q_op {op : Operator} {r : R2} {F : D → D → Option D} {a b : Expr} {g h : Den} {pos : Pos} (ho : OpR X (binaryOp op) r) (b2 : B2 r F) (ha : QV X a g) (hb : QV X b h) : QE X (.BinOp a op b pos) (d2 F g h) :=
  (pe_op ho ha hb).imp fun σ H Q w => t2_of b2 w
theorem q_cmp {op : CmpOp} {r : R2} {F : D → D → Option D} {a b : Expr} {g h : Den} {pos : Pos} (ho : OpR X (compareOp op) r) (b2 : B2 r F) (ha : QV X a g) (hb : QV X b h) (hm : behindInMarks op b = false) : QE X (.Compare a [op] [b] pos) (d2 F g h) :=
  (pe_cmpR ho ha hb hm).imp fun σ H Q w => t2_of b2 w
def dBool : D → Option Bool
  | .bl b => some b
  | _ => none
theorem Rp.bool {A : List Addr} {H : Hp} {d : D} {v : V} {b : Bool} (r : Rp A H d v) (e : dBool d = some b) : v = .bl b := by
  cases d with
  | bl c => cases e; exact r
  | _ => cases e
def dT (g : Den) : Rho → Option Bool := fun ρ => (g ρ).bind dBool
theorem t_cmp {op : CmpOp} {r : R2} {F : D → D → Option D} {a b : Expr} {g h : Den} {pos : Pos} (ho : OpR X (compareOp op) r) (b2 : B2 r F) (ha : QV X a g) (hb : QV X b h) (hm : behindInMarks op b = false) : QT X (.Compare a [op] [b] pos) (dT (d2 F g h)) :=
  (pt_cmpR ho ha hb hm).imp fun σ H Q ⟨H0, B, A, ρ, c, S, q, k⟩ => by
    obtain ⟨d, e1, e2⟩ := bind1 q
    exact t2_of (Q := fun x H' => ∃ k, x = .bl k ∧ Q k H') b2 ⟨H0, B, A, ρ, d, S, e1, fun v H' s r => ⟨c, r.bool e2, k H' s⟩⟩
/-- a value that is a truth value, as a test -/
theorem t_val {e : Expr} {g : Den} (h : QE X e g) (he : ∀ whole, isTrue e X.env whole = (do let v ← whole; standAt e.pos; holding [v] (truthy v)) := by intro _; rfl) : QT X e (dT g) :=
  (pt_val h he).imp fun σ H Q ⟨H0, B, A, ρ, c, S, q, k⟩ => by
    obtain ⟨d, e1, e2⟩ := bind1 q
    exact ⟨H0, B, A, ρ, d, S, e1, fun v H' s r => ⟨c, r.bool e2, k H' s⟩⟩

def dAnd (g h : Rho → Option Bool) : Rho → Option Bool := fun ρ => (g ρ).bind fun b => if b = true then h ρ else some false
def dOr (g h : Rho → Option Bool) : Rho → Option Bool := fun ρ => (g ρ).bind fun b => if b = true then some true else h ρ
def dNot (g : Rho → Option Bool) : Rho → Option Bool := fun ρ => (g ρ).map fun b => !b
abbrev QW (X : Cx) (e : Expr) (g : Rho → Option Bool) : Prop := PW X e (tBo g)
theorem _root_.L2.PW.imp {e : Expr} {t t' : TT} (h : PW X e t) (w : ∀ σ H Q, t' σ H Q → t σ H Q) : PW X e t' := ⟨fun wh pins s σ H Q I x => h.run wh pins s σ H Q I (w _ _ _ x)⟩
theorem w_and {a b : Expr} {rest : List Expr} {pos : Pos} {g h : Rho → Option Bool} (ha : QT X a g) (hb : QW X (.BoolOp .And (b :: rest) pos) h) : QW X (.BoolOp .And (a :: b :: rest) pos) (dAnd g h) :=
  (pw_and ha hb).imp fun σ H Q ⟨H0, B, A, ρ, c, S, q, k⟩ => by
    obtain ⟨x, e1, e2⟩ := bind1 q
    refine ⟨H0, B, A, ρ, x, S, e1, fun H1 s1 => ?_⟩
    by_cases hx : x = true
    · rw [if_pos hx] at e2 ⊢
      exact ⟨H0, B, A, ρ, c, S.ext s1, e2, fun H2 s2 => k H2 (s1.trans s2)⟩
    · rw [if_neg hx] at e2 ⊢
      cases e2
      exact k H1 s1
theorem w_or {a b : Expr} {rest : List Expr} {pos : Pos} {g h : Rho → Option Bool} (ha : QT X a g) (hb : QW X (.BoolOp .Or (b :: rest) pos) h) : QW X (.BoolOp .Or (a :: b :: rest) pos) (dOr g h) :=
  (pw_or ha hb).imp fun σ H Q ⟨H0, B, A, ρ, c, S, q, k⟩ => by
    obtain ⟨x, e1, e2⟩ := bind1 q
    refine ⟨H0, B, A, ρ, x, S, e1, fun H1 s1 => ?_⟩
    by_cases hx : x = true
    · rw [if_pos hx] at e2 ⊢
      cases e2
      exact k H1 s1
    · rw [if_neg hx] at e2 ⊢
      exact ⟨H0, B, A, ρ, c, S.ext s1, e2, fun H2 s2 => k H2 (s1.trans s2)⟩
theorem w_and1 {a : Expr} {pos : Pos} {g : Rho → Option Bool} (ha : QT X a g) : QW X (.BoolOp .And [a] pos) g := pw_and1 ha
theorem w_or1 {a : Expr} {pos : Pos} {g : Rho → Option Bool} (ha : QT X a g) : QW X (.BoolOp .Or [a] pos) g := pw_or1 ha
theorem QW.t {e : Expr} {g : Rho → Option Bool} (h : QW X e g) : QT X e g := PW.pt h
theorem t_not {a : Expr} {pos : Pos} {g : Rho → Option Bool} (ha : QT X a g) : QT X (.UnaryOp .Not a pos) (dNot g) :=
  (pt_not ha).imp fun σ H Q ⟨H0, B, A, ρ, c, S, q, k⟩ => by
    unfold dNot at q
    cases e : g ρ with
    | none => rw [e] at q; cases q
    | some b =>
      rw [e] at q; cases q
      exact ⟨H0, B, A, ρ, b, S, e, k⟩
/-! as values -/
def dAndV (g h : Den) : Den := fun ρ => (g ρ).bind fun x => (dBool x).bind fun b => if b = true then h ρ else some (.bl false)
def dOrV (g h : Den) : Den := fun ρ => (g ρ).bind fun x => (dBool x).bind fun b => if b = true then some (.bl true) else h ρ
def dNotV (g : Den) : Den := fun ρ => (g ρ).bind fun x => (dBool x).bind fun b => some (.bl (!b))
theorem q_one {op} {a : Expr} {pos : Pos} {g : Den} (h : QE X a g) : QE X (.BoolOp op [a] pos) g := pe_one h
theorem q_and {a b : Expr} {rest : List Expr} {pos : Pos} {g h : Den} (ha : QE X a g) (hb : QE X (.BoolOp .And (b :: rest) pos) h) : QE X (.BoolOp .And (a :: b :: rest) pos) (dAndV g h) :=
  (pe_and ha hb).imp fun σ H Q ⟨H0, B, A, ρ, d, S, q, k⟩ => by
    obtain ⟨x, e1, e2⟩ := bind1 q
    obtain ⟨c, e3, e4⟩ := bind1 e2
    refine ⟨H0, B, A, ρ, x, S, e1, fun v H1 s1 r1 => ⟨c, r1.bool e3, ?_⟩⟩
    by_cases hx : c = true
    · rw [if_pos hx] at e4 ⊢
      exact ⟨H0, B, A, ρ, d, S.ext s1, e4, fun v H2 s2 => k v H2 (s1.trans s2)⟩
    · rw [if_neg hx] at e4 ⊢
      cases e4
      exact k _ H1 s1 rfl
theorem q_or {a b : Expr} {rest : List Expr} {pos : Pos} {g h : Den} (ha : QE X a g) (hb : QE X (.BoolOp .Or (b :: rest) pos) h) : QE X (.BoolOp .Or (a :: b :: rest) pos) (dOrV g h) :=
  (pe_or ha hb).imp fun σ H Q ⟨H0, B, A, ρ, d, S, q, k⟩ => by
    obtain ⟨x, e1, e2⟩ := bind1 q
    obtain ⟨c, e3, e4⟩ := bind1 e2
    refine ⟨H0, B, A, ρ, x, S, e1, fun v H1 s1 r1 => ⟨c, r1.bool e3, ?_⟩⟩
    by_cases hx : c = true
    · rw [if_pos hx] at e4 ⊢
      cases e4
      exact k _ H1 s1 rfl
    · rw [if_neg hx] at e4 ⊢
      exact ⟨H0, B, A, ρ, d, S.ext s1, e4, fun v H2 s2 => k v H2 (s1.trans s2)⟩
theorem q_not {a : Expr} {pos : Pos} {g : Den} (ha : QE X a g) : QE X (.UnaryOp .Not a pos) (dNotV g) :=
  (pe_not ha).imp fun σ H Q ⟨H0, B, A, ρ, d, S, q, k⟩ => by
    obtain ⟨x, e1, e2⟩ := bind1 q
    obtain ⟨c, e3, e4⟩ := bind1 e2
    cases e4
    exact ⟨H0, B, A, ρ, x, S, e1, fun v H1 s1 r1 => ⟨c, r1.bool e3, k _ H1 s1 rfl⟩⟩
def dIf (c : Rho → Option Bool) (g h : Den) : Den := fun ρ => (c ρ).bind fun b => if b = true then g ρ else h ρ
theorem q_if {c a b : Expr} {pos : Pos} {gc : Rho → Option Bool} {g h : Den} (hc : QT X c gc) (ha : QE X a g) (hb : QE X b h) : QE X (.IfExp c a b pos) (dIf gc g h) :=
  (pe_ifExp hc ha hb).imp fun σ H Q ⟨H0, B, A, ρ, d, S, q, k⟩ => by
    obtain ⟨x, e1, e2⟩ := bind1 q
    refine ⟨H0, B, A, ρ, x, S, e1, fun H1 s1 => ?_⟩
    by_cases hx : x = true
    · rw [if_pos hx] at e2 ⊢
      exact ⟨H0, B, A, ρ, d, S.ext s1, e2, fun v H2 s2 => k v H2 (s1.trans s2)⟩
    · rw [if_neg hx] at e2 ⊢
      exact ⟨H0, B, A, ρ, d, S.ext s1, e2, fun v H2 s2 => k v H2 (s1.trans s2)⟩
end
end LY
set_option Elab.async false
set_option linter.all false
set_option maxRecDepth 100000
set_option maxHeartbeats 1000000
/-! LY3: operators on data -/
namespace LY
open PySem PySem.Spec PyProof.Rows L2

section
variable {X : Cx}
/-! ### further operators by values -/
/-- a tuple against the empty one -/
def rEqT0 (neg : Bool) (K : PySem.W.Frag) : R2 := fun x y H Q => ∃ a b xs, x = .ref a ∧ y = .ref b ∧ TupS H a xs ∧ TupS H b [] ∧ Q (.bl (neg != xs.isEmpty)) H
theorem op_eqT0 (hu : X.A.units + 64 < cLine) : OpR X (compareOp .Eq) (rEqT0 false X.K) := by
  intro pins s σ H x y v u Q I rx ry h
  obtain ⟨a, b, xs, rfl, rfl, ha, hb, q⟩ := h
  cases rx
  cases ry
  obtain ⟨its, r1, p1, _⟩ := I.tuple ha.sq
  obtain ⟨its2, r2, p2, _⟩ := I.tuple hb.sq
  cases r2
  refine SeqAt.eq_tupleAt (e := fun _ => true) (show s.heap.IsTuple a its.toArray from p1) (show s.heap.IsTuple b #[] from p2) (by omega) (fun j h1 h2 => absurd h2 (by simp)) ?_
  have e : ((List.range (min its.toArray.size (#[] : Array Value).size)).all (fun _ => true) && its.toArray.size == (#[] : Array Value).size) = (false != xs.isEmpty) := by
    have := r1.length
    cases xs <;> cases its <;> simp_all
  rw [e]
  exact ⟨.bl _, H, I, rfl, q⟩
def rInT (K : PySem.W.Frag) : R2 := fun x y H Q => ∃ d ds, Dp K H x d ∧ Dp K H y (.tuple ds) ∧ SeqAt.shaped d = true ∧ SeqAt.shaped (.tuple ds) = true ∧ Q (.bl (ds.any fun z => PyData.eqv z d)) H
def rNotInT (K : PySem.W.Frag) : R2 := fun x y H Q => ∃ d ds, Dp K H x d ∧ Dp K H y (.tuple ds) ∧ SeqAt.shaped d = true ∧ SeqAt.shaped (.tuple ds) = true ∧ Q (.bl (!ds.any fun z => PyData.eqv z d)) H
theorem op_inT (hu : X.A.units + 65 < cLine) : OpR X (compareOp .In) (rInT X.K) := by
  intro pins s σ H x y v u Q I rx ry h
  obtain ⟨d, ds, hd, he, sd, se, q⟩ := h
  obtain ⟨as, r1⟩ := Dp.reads I d x v hd rx
  obtain ⟨bs, r2⟩ := Dp.reads I (.tuple ds) y u he ry
  exact SeqAt.in_tuple_reads r2 r1 (SeqAt.canLay_of_shaped se) (SeqAt.canLay_of_shaped sd) (PyProof.Rows.room_in_shaped sd hu) ⟨.bl _, H, I, rfl, q⟩
theorem op_notInT (hu : X.A.units + 65 < cLine) : OpR X (compareOp .NotIn) (rNotInT X.K) := by
  intro pins s σ H x y v u Q I rx ry h
  obtain ⟨d, ds, hd, he, sd, se, q⟩ := h
  obtain ⟨as, r1⟩ := Dp.reads I d x v hd rx
  obtain ⟨bs, r2⟩ := Dp.reads I (.tuple ds) y u he ry
  exact SeqAt.notIn_tuple_reads r2 r1 (SeqAt.canLay_of_shaped se) (SeqAt.canLay_of_shaped sd) (PyProof.Rows.room_in_shaped sd hu) ⟨.bl _, H, I, rfl, q⟩
def rInK (neg : Bool) : R2 := fun x y H Q => ∃ a kvs k, y = .ref a ∧ x = kV k ∧ Rd H a (.dK kvs) ∧ Q (.bl (neg != (valV kvs k).isSome)) H
theorem op_inK (hu : X.A.units + 1 < cLine) : OpR X (compareOp .In) (rInK false) := by
  intro pins s σ H x y v u Q I rx ry h
  obtain ⟨a, kvs, k, rfl, rfl, e, q⟩ := h
  cases ry
  have g : DGet H a (kV k) (valV kvs k) := .inl ⟨kvs, k, e, rfl, rfl⟩
  exact d_in hu I g rx fun s' I' => ⟨.bl _, H, I', rfl, by simpa using q⟩
theorem op_notInK (hu : X.A.units + 1 < cLine) : OpR X (compareOp .NotIn) (rInK true) := by
  intro pins s σ H x y v u Q I rx ry h
  obtain ⟨a, kvs, k, rfl, rfl, e, q⟩ := h
  cases ry
  have g : DGet H a (kV k) (valV kvs k) := .inl ⟨kvs, k, e, rfl, rfl⟩
  exact d_notIn hu I g rx fun s' I' => ⟨.bl _, H, I', rfl, by simpa using q⟩
/-- d[k] -/
def rIxK : R2 := fun x y H Q => ∃ a kvs k v, x = .ref a ∧ y = kV k ∧ Rd H a (.dK kvs) ∧ valV kvs k = some v ∧ Q v H
theorem ix_dK (hu : X.A.units + 1 < cLine) : IxR X rIxK := by
  intro value slice pins s σ H x y v u Q I rx ry h hs
  obtain ⟨a, kvs, k, z, rfl, rfl, e, hv, q⟩ := h
  cases rx
  have g : DGet H a (kV k) (some z) := .inl ⟨kvs, k, e, rfl, hv.symm⟩
  exact tail_any (ops := [.ref a, u]) (dict_typeIs I g) PySem.F.slot_dict_getitem.lookup (d_getItem hu I g ry fun w' s' I' rw' => ⟨z, H, I', rw', q⟩) hs

/-! ### == -/
def fEq (neg : Bool) (x y : D) : Option D := if (x.ok 60 && y.ok 60) = true then some (.bl (neg != D.eqv x y)) else none
theorem b2_eq (K : PySem.W.Frag) : B2 (rEqD K) (fEq false) := by
  intro A H x y v w Q d m rx ry e k
  unfold fEq at e
  split at e
  · rename_i h
    rw [Bool.and_eq_true] at h
    cases e
    refine ⟨_, _, rx.dp h.1, ry.dp h.2, D.shaped h.1, D.shaped h.2, ?_⟩
    rw [D.eqv_py 60 x y h.1 h.2]
    have e2 : (false != D.eqv x y) = D.eqv x y := by cases D.eqv x y <;> rfl
    rw [e2] at k
    exact k _ H (Sm.refl H) rfl
  · cases e
theorem b2_ne (K : PySem.W.Frag) : B2 (rNeD K) (fEq true) := by
  intro A H x y v w Q d m rx ry e k
  unfold fEq at e
  split at e
  · rename_i h
    rw [Bool.and_eq_true] at h
    cases e
    refine ⟨_, _, rx.dp h.1, ry.dp h.2, D.shaped h.1, D.shaped h.2, ?_⟩
    rw [D.eqv_py 60 x y h.1 h.2]
    have e2 : (true != D.eqv x y) = !D.eqv x y := by cases D.eqv x y <;> rfl
    rw [e2] at k
    exact k _ H (Sm.refl H) rfl
  · cases e
/-- t == (), whatever is in t -/
def fEqT0 (x y : D) : Option D := match x, y with
  | .tup xs, .tup [] => some (.bl xs.isEmpty)
  | _, _ => none
theorem b2_eqT0 (K : PySem.W.Frag) : B2 (rEqT0 false K) fEqT0 := by
  intro A H x y v w Q d m rx ry e k
  unfold fEqT0 at e
  split at e
  · cases e
    rename_i xs
    obtain ⟨a, vs, rfl, _, ha, r1⟩ := rx.tup
    obtain ⟨b, ws, rfl, _, hb, r2⟩ := ry.tup
    rw [show ws = [] from r2] at hb
    refine ⟨a, b, vs, rfl, rfl, ha, hb, ?_⟩
    have e2 : (false != vs.isEmpty) = xs.isEmpty := by
      have := r1.length
      cases vs <;> cases xs <;> simp_all
    rw [e2]
    exact k _ H (Sm.refl H) rfl
  · cases e
/-! ### in -/
def fIn (neg : Bool) (x y : D) : Option D := match y with
  | .lst ds => if (x.ok 60 && ds.all (D.ok 59)) = true then some (.bl (neg != ds.any fun z => D.eqv z x)) else none
  | .tup ds => if (x.ok 60 && ds.all (D.ok 59)) = true then some (.bl (neg != ds.any fun z => D.eqv z x)) else none
  | .str z => (match x with
    | .str t => (match t.cps.toList with
      | [c] => some (.bl (neg != decide (c ∈ z.cps.toList)))
      | _ => none)
    | _ => none)
  | .dic kvs => (match x with
    | .str t => some (.bl (neg != kvs.any fun p => decide (p.1 = Sum.inr t)))
    | .int t => some (.bl (neg != kvs.any fun p => decide (p.1 = Sum.inl t)))
    | _ => none)
  | _ => none
theorem any_eqv {x : D} {ds : List D} (hx : x.ok 60 = true) (hd : ds.all (D.ok 59) = true) : ((D.pys ds).any fun z => PyData.eqv z x.py) = ds.any fun z => D.eqv z x := by
  rw [D.pys_map, List.any_map]
  induction ds with
  | nil => rfl
  | cons d ds ih =>
    rw [List.all_cons, Bool.and_eq_true] at hd
    rw [List.any_cons, List.any_cons, ih hd.2]
    have mono : d.ok 60 = true := by
      have all : ∀ n (d : D), d.ok n = true → d.ok (n + 1) = true := by
        intro n
        induction n with
        | zero => intro d h; cases d <;> first | (simp [D.ok] at h; done) | simpa [D.ok] using h
        | succ n ih =>
          intro d h
          cases d <;> first
            | (simp [D.ok] at h; done)
            | (simp only [D.ok, List.all_eq_true] at h ⊢; exact fun y hy => ih y (h y hy))
            | simpa [D.ok] using h
      exact all 59 d hd.1
    rw [show ((fun z => PyData.eqv z x.py) ∘ D.py) d = PyData.eqv d.py x.py from rfl, D.eqv_py 60 d x mono hx]
def rInAll (K : PySem.W.Frag) : R2 := fun x y H Q => ((rInD K x y H Q ∨ rInT K x y H Q) ∨ (∃ (c : Nat) (z : Str), x = .str ⟨#[c]⟩ ∧ y = .str z ∧ Q (.bl (decide (c ∈ z.cps.toList))) H)) ∨ rInK false x y H Q
def rNotInAll (K : PySem.W.Frag) : R2 := fun x y H Q => ((rNotInD K x y H Q ∨ rNotInT K x y H Q) ∨ (∃ (c : Nat) (z : Str), x = .str ⟨#[c]⟩ ∧ y = .str z ∧ Q (.bl (!decide (c ∈ z.cps.toList))) H)) ∨ rInK true x y H Q
theorem op_in (hu : X.A.units + 65 < cLine) : OpR X (compareOp .In) (rInAll X.K) := (((op_inD hu).or (op_inT hu)).or op_in_sign).or (op_inK (by omega))
theorem op_notIn (hu : X.A.units + 65 < cLine) : OpR X (compareOp .NotIn) (rNotInAll X.K) := (((op_notInD hu).or (op_notInT hu)).or op_notIn_sign).or (op_notInK (by omega))
theorem RpK.val {A : List Addr} {H : Hp} {k : Key} : ∀ {kvs : List (Key × D)} {vs : List (Key × V)}, RpK A H kvs vs →
    (valV kvs' k = valV kvs' k) ∧ (match kvs.find? (fun p => decide (p.1 = k)) with
      | some p => ∃ v, valV vs k = some v ∧ Rp A H p.2 v
      | none => valV vs k = none) ∧ ((valV vs k).isSome = kvs.any fun p => decide (p.1 = k))
  | [], vs, h => by rw [show vs = [] from h]; exact ⟨rfl, rfl, rfl⟩
  | (j, d) :: kvs, vs, h => by
    obtain ⟨v, r, rfl, h1, h2⟩ := h
    by_cases e : j = k
    · subst e
      refine ⟨rfl, ?_, ?_⟩
      · simp only [List.find?_cons, decide_true]
        exact ⟨v, valV_pos rfl, h1⟩
      · rw [valV_pos rfl]; simp
    · have hf : (decide ((j, d).1 = k)) = false := decide_eq_false e
      obtain ⟨_, i1, i2⟩ := RpK.val (kvs' := kvs') (k := k) h2
      have hv : valV ((j, v) :: r) k = valV r k := by
        unfold valV
        rw [List.find?_cons, show decide ((j, v).1 = k) = false from hf]
      refine ⟨rfl, ?_, ?_⟩
      · rw [List.find?_cons, hf, hv]
        exact i1
      · rw [hv, i2, List.any_cons, hf, Bool.false_or]
theorem Vw.dic {A : List Addr} {H : Hp} {v : V} {kvs : List (Key × D)} (h : Vw A H (.dic kvs) v) : ∃ a vs, v = .ref a ∧ Rd H a (.dK vs) ∧ RpK A H kvs vs := by
  rcases h with ⟨a, vs, rfl, _, q, r⟩ | ⟨a, rfl, vs, q, r⟩
  · exact ⟨a, vs, rfl, q, r⟩
  · exact ⟨a, vs, rfl, .inl q, r⟩
theorem nb (b : Bool) : (false != b) = b := by cases b <;> rfl
theorem tb (b : Bool) : (true != b) = !b := by cases b <;> rfl
theorem str_one {t : Str} {c : Nat} (h : t.cps.toList = [c]) : t = ⟨#[c]⟩ := by
  obtain ⟨cps⟩ := t
  obtain ⟨l⟩ := cps
  have h : l = [c] := h
  rw [h]
theorem b2_in (K : PySem.W.Frag) : B2 (rInAll K) (fIn false) := by
  intro A H x y v w Q d m rx ry e k
  unfold fIn at e
  split at e
  · rename_i ds
    split at e
    · cases e
      rename_i h
      rw [Bool.and_eq_true] at h
      refine .inl (.inl (.inl ⟨_, D.pys ds, rx.dp h.1, ?_, D.shaped h.1, ?_, ?_⟩))
      · exact Vw.dp (n := 60) (d := .lst ds) (by simpa [D.ok] using h.2) ry
      · exact D.shaped (d := .lst ds) (by simpa [D.ok] using h.2)
      · rw [any_eqv h.1 h.2]
        rw [nb] at k
        exact k _ H (Sm.refl H) rfl
    · cases e
  · rename_i ds
    split at e
    · cases e
      rename_i h
      rw [Bool.and_eq_true] at h
      refine .inl (.inl (.inr ⟨_, D.pys ds, rx.dp h.1, ?_, D.shaped h.1, ?_, ?_⟩))
      · exact Vw.dp (n := 60) (d := .tup ds) (by simpa [D.ok] using h.2) ry
      · exact D.shaped (d := .tup ds) (by simpa [D.ok] using h.2)
      · rw [any_eqv h.1 h.2]
        rw [nb] at k
        exact k _ H (Sm.refl H) rfl
    · cases e
  · split at e
    · rename_i z t
      split at e
      · cases e
        rename_i c hc
        refine .inl (.inr ⟨c, _, ?_, ry.str, ?_⟩)
        · rw [rx.str, str_one hc]
        · rw [nb] at k
          exact k _ H (Sm.refl H) rfl
      · cases e
    · cases e
  · rename_i kvs
    obtain ⟨a, vs, rfl, q, r⟩ := ry.dic
    split at e
    · cases e
      rename_i t
      refine .inr ⟨a, vs, Sum.inr t, rfl, rx.str, q, ?_⟩
      rw [(RpK.val (kvs' := vs) r).2.2]
      exact k _ H (Sm.refl H) rfl
    · cases e
      rename_i t
      refine .inr ⟨a, vs, Sum.inl t, rfl, rx.int, q, ?_⟩
      rw [(RpK.val (kvs' := vs) r).2.2]
      exact k _ H (Sm.refl H) rfl
    · cases e
  · cases e
theorem b2_notIn (K : PySem.W.Frag) : B2 (rNotInAll K) (fIn true) := by
  intro A H x y v w Q d m rx ry e k
  unfold fIn at e
  split at e
  · rename_i ds
    split at e
    · cases e
      rename_i h
      rw [Bool.and_eq_true] at h
      refine .inl (.inl (.inl ⟨_, D.pys ds, rx.dp h.1, ?_, D.shaped h.1, ?_, ?_⟩))
      · exact Vw.dp (n := 60) (d := .lst ds) (by simpa [D.ok] using h.2) ry
      · exact D.shaped (d := .lst ds) (by simpa [D.ok] using h.2)
      · rw [any_eqv h.1 h.2]
        rw [tb] at k
        exact k _ H (Sm.refl H) rfl
    · cases e
  · rename_i ds
    split at e
    · cases e
      rename_i h
      rw [Bool.and_eq_true] at h
      refine .inl (.inl (.inr ⟨_, D.pys ds, rx.dp h.1, ?_, D.shaped h.1, ?_, ?_⟩))
      · exact Vw.dp (n := 60) (d := .tup ds) (by simpa [D.ok] using h.2) ry
      · exact D.shaped (d := .tup ds) (by simpa [D.ok] using h.2)
      · rw [any_eqv h.1 h.2]
        rw [tb] at k
        exact k _ H (Sm.refl H) rfl
    · cases e
  · split at e
    · rename_i z t
      split at e
      · cases e
        rename_i c hc
        refine .inl (.inr ⟨c, _, ?_, ry.str, ?_⟩)
        · rw [rx.str, str_one hc]
        · rw [tb] at k
          exact k _ H (Sm.refl H) rfl
      · cases e
    · cases e
  · rename_i kvs
    obtain ⟨a, vs, rfl, q, r⟩ := ry.dic
    split at e
    · cases e
      rename_i t
      refine .inr ⟨a, vs, Sum.inr t, rfl, rx.str, q, ?_⟩
      rw [(RpK.val (kvs' := vs) r).2.2]
      exact k _ H (Sm.refl H) rfl
    · cases e
      rename_i t
      refine .inr ⟨a, vs, Sum.inl t, rfl, rx.int, q, ?_⟩
      rw [(RpK.val (kvs' := vs) r).2.2]
      exact k _ H (Sm.refl H) rfl
    · cases e
  · cases e

/-! ### + - * // % < .. -/
def fAdd (x y : D) : Option D := match x, y with
  | .int i, .int j => some (.int (i + j))
  | .str i, .str j => if i.length + j.length ≤ 100000 then some (.str (i ++ j)) else none
  | .tup i, .tup j => if i.length + j.length ≤ 100000 then some (.tup (i ++ j)) else none
  | .lst i, .lst j => if i.length + j.length ≤ 100000 then some (.lst (i ++ j)) else none
  | _, _ => none
/-- t + u: a new tuple is known to have no dict -/
def rCatS (K : PySem.W.Frag) : R2 := fun x y H Q => ∃ a b xs ys, x = .ref a ∧ y = .ref b ∧ SqT K H a xs ∧ SqT K H b ys ∧ xs.length + ys.length ≤ sizeLine ∧
  (xs = [] → Q (.ref b) H) ∧ (xs ≠ [] → ys = [] → Q (.ref a) H) ∧ (xs ≠ [] → ys ≠ [] → ∀ (p : Addr) (o : Obj), H p = none → o.dict = none → Q (.ref p) (upd H p (.frz o (.tup (xs ++ ys)))))
theorem op_catS {X : Cx} : OpR X (binaryOp .Add) (rCatS X.K) := by
  intro pins s σ H x y v u Q I rx ry h
  obtain ⟨a, b, xs, ys, rfl, rfl, ha, hb, hz, q0, q1, q2⟩ := h
  cases rx
  cases ry
  obtain ⟨its, r1, p1, _⟩ := I.tuple ha
  obtain ⟨its2, r2, p2, _⟩ := I.tuple hb
  by_cases hx : xs = []
  · subst hx
    cases r1
    exact cat_tup0 p1 p2 ⟨.ref b, H, I, rfl, q0 rfl⟩
  · refine HT.cat_tup p1 p2 (fun z => hx (r1.nil_iff.mp z)) (fun z => ⟨.ref a, H, I, rfl, q1 hx (r2.nil_iff.mp z)⟩) (fun z => ?_) (by rw [← r1.length, ← r2.length]; exact hz)
    refine ⟨.ref s.heap.objs.size, _, I.laid (t' := s.toks) (o := .frz { cls := .type "tuple", data := .seq (its ++ its2).toArray } (.tup (xs ++ ys))) (fun b ob q => Heap.get?_push_of_some _ q) (Nat.le_refl _) ?_, rfl, q2 hx (fun w => z (r2.nil_iff.mpr w)) _ _ (I.hok.fresh (Nat.le_refl _)) rfl⟩
    exact ⟨Heap.get?_push_size _ rfl, by rw [List.length_append]; exact hz, _, r1.append r2, IsTup.new _ _⟩
/-- xs + ys, lists that are read -/
def rCatL : R2 := fun x y H Q => ∃ l b xs zs, x = .ref l ∧ y = .ref b ∧ LstS H l xs ∧ LstS H b zs ∧ xs.length + zs.length ≤ sizeLine ∧ ∀ p, H p = none → Q (.ref p) (upd H p (.lst (xs ++ zs)))
theorem op_catL {X : Cx} : OpR X (binaryOp .Add) rCatL := by
  intro pins s σ H x y v u Q I rx ry h
  obtain ⟨l, b, xs, zs, rfl, rfl, hH, hB, hz, q⟩ := h
  cases rx
  cases ry
  obtain ⟨z, its, n, r, e⟩ := (show ObjOk X.prog X.w H s.heap l (.lst xs) from rd_of I.hok hH)
  obtain ⟨z2, its2, n2, r2, e2⟩ := (show ObjOk X.prog X.w H s.heap b (.lst zs) from rd_of I.hok hB)
  have hl := r.length
  have hl2 := r2.length
  refine PySem.P.add_list e e2 ?_ (by rw [List.size_toArray, List.size_toArray]; omega)
  have ea : its.toArray ++ its2.toArray = (its ++ its2).toArray := by simp
  rw [ea]
  exact ⟨.ref _, _, I.lnew (t' := s.toks) (r.append r2) (by rw [List.length_append]; omega), rfl, q _ I.fresh⟩
def rAddAll (K : PySem.W.Frag) : R2 := fun x y H Q => (((∃ i j, x = .int i ∧ y = .int j ∧ Q (.int (i + j)) H) ∨ (∃ i j, x = .str i ∧ y = .str j ∧ i.length + j.length ≤ sizeLine ∧ Q (.str (i ++ j)) H)) ∨ rCatS K x y H Q) ∨ rCatL x y H Q
theorem op_addAll : OpR X (binaryOp .Add) (rAddAll X.K) := ((op_add.or op_add_str).or op_catS).or op_catL
theorem b2_add (K : PySem.W.Frag) : B2 (rAddAll K) fAdd := by
  intro A H x y v w Q d m rx ry e k
  have hs := sizeLine_eq
  unfold fAdd at e
  split at e
  · cases e
    exact .inl (.inl (.inl ⟨_, _, rx.int, ry.int, k _ H (Sm.refl H) rfl⟩))
  · split at e
    · cases e
      exact .inl (.inl (.inr ⟨_, _, rx.str, ry.str, by omega, k _ H (Sm.refl H) rfl⟩))
    · cases e
  · split at e
    · cases e
      rename_i i j hl
      obtain ⟨a, vs, rfl, na, ha, r1⟩ := rx.tup
      obtain ⟨b, ws, rfl, nb', hb, r2⟩ := ry.tup
      have l1 := r1.length
      have l2 := r2.length
      refine .inl (.inr ⟨a, b, vs, ws, rfl, rfl, ha.sq, hb.sq, by omega, fun z => ?_, fun _ z => ?_, fun _ _ p o hp ho => ?_⟩)
      · refine k _ H (Sm.refl H) ⟨b, ws, rfl, nb', hb, ?_⟩
        rw [z] at l1
        cases i with
        | nil => exact r2
        | cons _ _ => cases l1
      · refine k _ H (Sm.refl H) ⟨a, vs, rfl, na, ha, ?_⟩
        rw [z] at l2
        cases j with
        | nil => rw [List.append_nil]; exact r1
        | cons _ _ => cases l2
      · exact k _ _ (Sm.new hp) (Rp.newT m (r1.append r2) hp ho)
    · cases e
  · split at e
    · cases e
      rename_i i j hl
      obtain ⟨a, vs, rfl, ha, r1⟩ := rx.lst
      obtain ⟨b, ws, rfl, hb, r2⟩ := ry.lst
      have l1 := r1.length
      have l2 := r2.length
      refine .inr ⟨a, b, vs, ws, rfl, rfl, ha, hb, by omega, fun p hp => ?_⟩
      exact k _ _ (Sm.new hp) (Rp.newL m (r1.append r2) hp)
    · cases e
  · cases e
def fI (f : Int → Int → Option D) (x y : D) : Option D := match x, y with
  | .int i, .int j => f i j
  | _, _ => none
theorem fI_some {f : Int → Int → Option D} {x y d : D} (e : fI f x y = some d) : ∃ i j, x = .int i ∧ y = .int j ∧ f i j = some d := by
  unfold fI at e
  split at e
  · exact ⟨_, _, rfl, rfl, e⟩
  · cases e
theorem b2_rI0 {g : Int → Int → V} {f : Int → Int → D} (h : ∀ A H i j, Rp A H (f i j) (g i j)) : B2 (rI0 g) (fI fun i j => some (f i j)) := by
  intro A H x y v w Q d m rx ry e k
  obtain ⟨i, j, rfl, rfl, e⟩ := fI_some e
  cases e
  exact ⟨i, j, rx.int, ry.int, k _ H (Sm.refl H) (h _ _ _ _)⟩
theorem b2_rI {C : Int → Int → Prop} {g : Int → Int → V} {f : Int → Int → Option D} (h : ∀ A H i j d, f i j = some d → C i j ∧ Rp A H d (g i j)) : B2 (rI C g) (fI f) := by
  intro A H x y v w Q d m rx ry e k
  obtain ⟨i, j, rfl, rfl, e⟩ := fI_some e
  obtain ⟨c, r⟩ := h A H i j d e
  exact ⟨i, j, rx.int, ry.int, c, k _ H (Sm.refl H) r⟩
abbrev fSub := fI fun i j => some (.int (i - j))
theorem b2_sub : B2 (rI0 fun i j => .int (i - j)) fSub := b2_rI0 (f := fun i j => .int (i - j)) fun _ _ _ _ => rfl
abbrev fLt := fI fun i j => some (.bl (decide (i < j)))
abbrev fLe := fI fun i j => some (.bl (decide (i ≤ j)))
abbrev fGt := fI fun i j => some (.bl (decide (j < i)))
abbrev fGe := fI fun i j => some (.bl (decide (j ≤ i)))
theorem b2_lt : B2 (rI0 fun i j => .bl (decide (i < j))) fLt := b2_rI0 (f := fun i j => .bl (decide (i < j))) fun _ _ _ _ => rfl
theorem b2_le : B2 (rI0 fun i j => .bl (decide (i ≤ j))) fLe := b2_rI0 (f := fun i j => .bl (decide (i ≤ j))) fun _ _ _ _ => rfl
theorem b2_gt : B2 (rI0 fun i j => .bl (decide (j < i))) fGt := b2_rI0 (f := fun i j => .bl (decide (j < i))) fun _ _ _ _ => rfl
theorem b2_ge : B2 (rI0 fun i j => .bl (decide (j ≤ i))) fGe := b2_rI0 (f := fun i j => .bl (decide (j ≤ i))) fun _ _ _ _ => rfl
abbrev fMul := fI fun i j => if (-(2 ^ 64) < i ∧ i < 2 ^ 64) ∨ (-(2 ^ 64) < j ∧ j < 2 ^ 64) then some (.int (i * j)) else none
theorem b2_mul : B2 (rI CMul fun i j => .int (i * j)) fMul := b2_rI fun A H i j d e => by
  split at e
  · cases e
    rename_i h
    exact ⟨h, rfl⟩
  · cases e
abbrev fMod := fI fun i j => if 0 < j then some (.int (i % j)) else none
theorem b2_mod : B2 (rI (fun _ j => 0 < j) fun i j => .int (i % j)) fMod := b2_rI fun A H i j d e => by
  split at e
  · cases e
    rename_i h
    exact ⟨h, rfl⟩
  · cases e
abbrev fDiv := fI fun i j => if 0 < j ∧ j < 1073741824 then some (.int (i / j)) else none
theorem b2_div : B2 (rI CDiv fun i j => .int (i / j)) fDiv := b2_rI fun A H i j d e => by
  split at e
  · cases e
    rename_i h
    exact ⟨h, rfl⟩
  · cases e
def fIsN (neg : Bool) (x y : D) : Option D := match y with
  | .non => (match x with
    | .non => some (.bl (neg != true))
    | .raw _ => none
    | _ => some (.bl (neg != false)))
  | _ => none
theorem Vw.notNon {A : List Addr} {H : Hp} {d : D} {v : V} (h : Vw A H d v) (e : ∀ u, d ≠ .raw u) (n : d ≠ .non) : v ≠ .non := by
  rcases h with h | ⟨a, rfl, _⟩
  · cases d with
    | non => exact absurd rfl n
    | raw u => exact absurd rfl (e u)
    | bl b => rw [show v = _ from h]; intro z; cases z
    | int b => rw [show v = _ from h]; intro z; cases z
    | str b => rw [show v = _ from h]; intro z; cases z
    | tup b => obtain ⟨a, vs, rfl, _⟩ := h; intro z; cases z
    | lst b => obtain ⟨a, vs, rfl, _⟩ := h; intro z; cases z
    | dic b => obtain ⟨a, vs, rfl, _⟩ := h; intro z; cases z
    | ins C b => obtain ⟨a, dx, vs, rfl, _⟩ := h; intro z; cases z
    | exc C b => obtain ⟨a, dx, vs, rfl, _⟩ := h; intro z; cases z
    | clo C => obtain ⟨a, c, rfl, _⟩ := h; intro z; cases z
  · intro z; cases z
theorem b2_isN : B2 (fun x y H Q => y = .non ∧ Q (.bl (decide (x = .non))) H) (fIsN false) := by
  intro A H x y v w Q d m rx ry e k
  unfold fIsN at e
  split at e
  · refine ⟨ry.non, ?_⟩
    split at e
    · cases e
      rw [rx.non]
      exact k _ H (Sm.refl H) rfl
    · cases e
    · rename_i h1 h2
      cases e
      rw [decide_eq_false (rx.notNon (fun u z => h2 u z) (fun z => h1 z))]
      exact k _ H (Sm.refl H) rfl
  · cases e
theorem b2_notN : B2 (fun x y H Q => y = .non ∧ Q (.bl (!decide (x = .non))) H) (fIsN true) := by
  intro A H x y v w Q d m rx ry e k
  unfold fIsN at e
  split at e
  · refine ⟨ry.non, ?_⟩
    split at e
    · cases e
      rw [rx.non]
      exact k _ H (Sm.refl H) rfl
    · cases e
    · rename_i h1 h2
      cases e
      rw [decide_eq_false (rx.notNon (fun u z => h2 u z) (fun z => h1 z))]
      exact k _ H (Sm.refl H) rfl
  · cases e
end
end LY
set_option Elab.async false
set_option linter.all false
set_option maxRecDepth 100000
set_option maxHeartbeats 1000000
/-! LY4: subscripts, slices -/
namespace LYR
open PySem PySem.Spec PyProof.Rows
section
variable {prog : Program} {w : World} {A : Around} {E : Value → Shared → Prop} {s : Shared}
theorem adjust_rev (n : Nat) : Builtin.Slice.sliceAdjust none none (-1) (n : Int) = ((n : Int) - 1, -1) := by
  unfold Builtin.Slice.sliceAdjust
  have h1 : ((-1 : Int) < 0) := by omega
  simp only [h1, if_true]
theorem places_rev (n : Nat) : Builtin.Slice.slicePlaces ((n : Int) - 1) (-1) (-1) = n := by
  unfold Builtin.Slice.slicePlaces
  have h1 : ¬ ((-1 : Int) > 0) := by omega
  simp only [h1, if_false, Int.neg_neg, Int.ediv_one]
  split <;> omega
theorem fm_congr {α β : Type} {f g : α → Option β} : ∀ {l : List α}, (∀ x ∈ l, f x = g x) → l.filterMap f = l.filterMap g
  | [], _ => rfl
  | x :: l, h => by
    have e := h x List.mem_cons_self
    have ih := fm_congr (f := f) (g := g) (l := l) fun y hy => h y (List.mem_cons_of_mem _ hy)
    simp only [List.filterMap_cons, e, ih]
theorem sliceApplied_rev {sl : Addr} {vl vu vs : Value} {n : Nat} {Q : Int × Int × Nat → Shared → Prop} (hs : s.heap.IsSliceOf sl vl vu vs) (pl : IsPart vl none) (pu : IsPart vu none) (ps : IsPart vs (some (-1)))
    (h : Q ((n : Int) - 1, -1, n) s) : wpAny (model prog w) A (Builtin.Slice.sliceApplied (.ref sl) (pure (n : Int))) Q E s := by
  obtain ⟨os, hos, hcs, hds⟩ := id hs
  unfold Builtin.Slice.sliceApplied Builtin.Slice.sliceFields
  refine wpAny_bind (wpAny_bind (wpAny_field hos hds (x := vl) rfl (wpAny_bind (wpAny_field hos hds (x := vu) rfl (wpAny_bind (wpAny_field hos hds (x := vs) rfl (wpAny_pure ?_)))))))
  refine wpAny_bind (HT.slicePart_ ps ?_)
  show wpAny _ _ (if ((-1 : Int) == 0) = true then _ else _) _ _ s
  rw [if_neg (by decide)]
  refine wpAny_bind (HT.slicePart_ pl (wpAny_bind (HT.slicePart_ pu (wpAny_bind (wpAny_pure ?_)))))
  show wpAny _ _ (match Builtin.Slice.sliceAdjust none none (-1) (n : Int) with | (lo, hi) => pure (lo, (-1 : Int), Builtin.Slice.slicePlaces lo hi (-1))) _ _ s
  rw [adjust_rev n]
  show wpAny _ _ (pure ((n : Int) - 1, (-1 : Int), Builtin.Slice.slicePlaces ((n : Int) - 1) (-1) (-1))) _ _ s
  rw [places_rev]
  exact wpAny_pure h
theorem pick_rev (xs : Array Value) : ((List.range xs.size).filterMap fun (k : Nat) => xs[(((xs.size : Int) - 1) + (k : Int) * (-1)).toNat]?).toArray = xs.toList.reverse.toArray := by
  congr 1
  have e : ∀ k ∈ List.range xs.size, xs[(((xs.size : Int) - 1) + (k : Int) * (-1)).toNat]? = xs.toList.reverse[k]? := by
    intro k hk
    have hk : k < xs.size := List.mem_range.mp hk
    rw [List.getElem?_reverse (by simpa using hk)]
    have : (((xs.size : Int) - 1) + (k : Int) * (-1)).toNat = xs.size - 1 - k := by omega
    rw [this]
    simp
  rw [fm_congr e]
  have h2 : xs.size = xs.toList.reverse.length := by simp
  rw [h2]
  generalize xs.toList.reverse = l
  induction l with
  | nil => rfl
  | cons x l ih =>
    rw [List.length_cons, List.range_succ_eq_map, List.filterMap_cons]
    simp only [List.getElem?_cons_zero, List.filterMap_map]
    rw [show ((fun k => (x :: l)[k]?) ∘ Nat.succ) = fun k => l[k]? from by funext k; simp, ih]
theorem getItem_tuple_rev {t sl : Addr} {items : Array Value} {vl vu vs : Value} {Q : Value → Shared → Prop} (ht : IsTup s.heap t items) (hs : s.heap.IsSliceOf sl vl vu vs) (pl : IsPart vl none) (pu : IsPart vu none) (ps : IsPart vs (some (-1)))
    (h : Q (.ref s.heap.objs.size) { s with heap := s.heap.push { cls := .type "tuple", data := .seq items.toList.reverse.toArray } })
    (hsz : items.size ≤ sizeLine) : wpAny (model prog w) A (getItem (.ref t) (.ref sl)) Q E s := by
  have htake : sizeOk (.seq items.toList.reverse.toArray) := by
    show items.toList.reverse.toArray.size ≤ sizeLine
    simpa using hsz
  obtain ⟨os, hos, hcs, hds⟩ := id hs
  have hTs : s.TypeIs (.ref sl) "slice" := ⟨os, hos, hcs⟩
  unfold getItem
  try with_reducible refine wpAny_holding ?_
  first | refine wpAny_bind (wpAny_pure ?_) | skip
  refine wpAny_bind (wpAny_sequenceKey ht.typeIs (by decide) ?_)
  refine wpAny_bind (wpAny_callSpecial?_slot (name := Str.ofString "__getitem__") ht.typeIs PyProof.Rows.slot_tuple_getitem
    (wpAny_call_entry PyProof.Rows.slot_tuple_getitem ht.typeIs entry_tuple_getitem ?_ (args_tuple_getitem _ _)))
  show wpAny _ _ (Builtin.Tuple.tupleItemsOf (.ref t) >>= _) _ _ s
  refine wpAny_bind (tupleItemsOf_ ht ?_)
  refine wpAny_bind (wpAny_typeOf hTs ?_)
  rw [if_pos (by decide)]
  refine wpAny_bind (sliceApplied_rev hs pl pu ps ?_)
  show wpAny _ _ (if (((items.size : Int) - 1) == 0 && (-1 : Int) == 1 && items.size == items.size) = true then _ else _) _ _ s
  rw [if_neg (by simp), pick_rev]
  first
    | exact wpAny_bind (m := Builtin.Tuple.tupleExact _) (wpAny_newObj_type (wpAny_pure ⟨_, rfl, wpAny_pure h⟩) htake)
    | exact wpAny_bind (m := Builtin.Tuple.tupleExact _) (wpAny_newObj_type (wpAny_bind (wpAny_pure (wpAny_pure ⟨_, rfl, wpAny_pure h⟩))) htake)
    | exact wpAny_bind (wpAny_bind (m := Builtin.Tuple.tupleExact _) (wpAny_newObj_type (wpAny_pure (wpAny_pure ⟨_, rfl, wpAny_pure h⟩)) htake))
    | exact wpAny_bind (wpAny_bind (m := Builtin.Tuple.tupleExact _) (wpAny_newObj_type (wpAny_pure ⟨_, rfl, wpAny_pure h⟩) htake))
end
end LYR
namespace LY
open PySem PySem.Spec PyProof.Rows L2
section
variable {X : Cx}
/-- e[::-1], a list or a tuple -/
def tRev (K : PySem.W.Frag) (te : TE) : TE := fun σ H Q => te σ H fun x H1 => ∃ a xs, x = .ref a ∧
  ((SqL K H1 a xs ∧ ∀ p, H1 p = none → Q (.ref p) (upd H1 p (.lst xs.reverse))) ∨ (SqT K H1 a xs ∧ ∀ (p : Addr) (o : Obj), H1 p = none → o.dict = none → Q (.ref p) (upd H1 p (.frz o (.tup xs.reverse)))))
theorem pe_rev {e : Expr} {te : TE} {k : Nat} {p1 p2 p3 pos : Pos} (he : PE X e te) : PE X (.Subscript e (.Slice none none (some (.UnaryOp .USub (.Constant (.int 1) k p1) p2)) p3) pos) (tRev X.K te) := by
  refine ⟨fun pins s σ H Q I h => ?_⟩
  refine Subscript_ (thn (he.run pins s σ H _ I h) fun v s1 ⟨x, H1, I1, r1, q1⟩ => ?_)
  obtain ⟨a, xs, ex, hx⟩ := q1
  subst ex
  cases r1
  have hst : PO X (some (.UnaryOp .USub (.Constant (.int 1) k p1) p2)) (tPart (tUn (rU fun i => .int (-i)) (tC (.int 1)))) := po_some (pe_un un_neg pe_int)
  refine wpAny_Slice (thn (po_none.run pins s1 σ H1 (fun o H2 => o = none ∧ H2 = H1) I1 ⟨rfl, rfl⟩) fun vl s2 ⟨l, H2, I2, pl, el, e2⟩ => ?_)
  subst el e2
  refine thn (po_none.run pins s2 σ H2 (fun o H3 => o = none ∧ H3 = H2) I2 ⟨rfl, rfl⟩) fun vu s3 ⟨u, H3, I3, pu, eu, e3⟩ => ?_
  subst eu e3
  refine thn (hst.run pins s3 σ H3 (fun o H4 => o = some (-1) ∧ H4 = H3) I3 ⟨1, rfl, -1, rfl, rfl, rfl⟩) fun vs s4 ⟨o, H4, I4, ps, eo, e4⟩ => ?_
  subst eo e4
  have I5 : Inv X pins σ H4 { s4 with heap := s4.heap.push { cls := .type "slice", data := .fields #[vl, vu, vs] } } := I4.kept (t' := s4.toks) fun b ob q => Heap.get?_push_of_some _ q
  show wpAny (model X.prog X.w) X.A (subscriptTail e (.Slice none none (some (.UnaryOp .USub (.Constant (.int 1) k p1) p2)) p3) (.ref a) (.ref s4.heap.objs.size)) (EP X pins σ Q) X.xe { s4 with heap := s4.heap.push { cls := .type "slice", data := .fields #[vl, vu, vs] } }
  rcases hx with ⟨hx, q⟩ | ⟨hx, q⟩
  · obtain ⟨its, r, ht, hz⟩ := I5.list hx
    have hlen := r.length
    refine tail_any (ops := [.ref a, .ref s4.heap.objs.size]) ht.isList.typeIs (PySem.slot_list_getitem.lookup) ?_ (by with_unfolding_all rfl)
    refine wpAny_getItem_list_slice ht.isList (Heap.IsSliceOf.new _ vl vu vs) pl pu ps (by decide) ?_ (by rw [List.size_toArray]; omega)
    rw [PySem.W.krv_pick]
    refine ⟨.ref _, _, I5.laid (t' := s4.toks) (o := .lst xs.reverse) (fun b ob q => Heap.get?_push_of_some _ q) (Nat.le_refl _) ?_, rfl, q _ (I5.hok.fresh (Nat.le_refl _))⟩
    exact ⟨by rw [List.length_reverse]; exact hz, _, 0, r.reverse, Heap.get?_push_size _ rfl⟩
  · obtain ⟨its, r, ht, hz⟩ := I5.tuple hx
    have hlen := r.length
    refine tail_any (ops := [.ref a, .ref s4.heap.objs.size]) ht.typeIs (PyProof.Rows.slot_tuple_getitem.lookup) ?_ (by with_unfolding_all rfl)
    refine LYR.getItem_tuple_rev ht (Heap.IsSliceOf.new _ vl vu vs) pl pu ps ?_ (by rw [List.size_toArray]; omega)
    refine ⟨.ref _, _, I5.laid (t' := s4.toks) (o := .frz { cls := .type "tuple", data := .seq its.toArray.toList.reverse.toArray } (.tup xs.reverse)) (fun b ob q => Heap.get?_push_of_some _ q) (Nat.le_refl _) ?_, rfl, q _ _ (I5.hok.fresh (Nat.le_refl _)) rfl⟩
    exact ⟨Heap.get?_push_size _ rfl, by rw [List.length_reverse]; exact hz, _, r.reverse, IsTup.new _ _⟩
def dRev (g : Den) : Den := fun ρ => (g ρ).bind fun d => match d with
  | .lst ds => some (.lst ds.reverse)
  | .tup ds => some (.tup ds.reverse)
  | _ => none
theorem q_rev {e : Expr} {g : Den} {k : Nat} {p1 p2 p3 pos : Pos} (he : QV X e g) : QE X (.Subscript e (.Slice none none (some (.UnaryOp .USub (.Constant (.int 1) k p1) p2)) p3) pos) (dRev g) :=
  (pe_rev he).imp fun σ H Q ⟨H0, B, A, ρ, d, S, q, k⟩ => by
    obtain ⟨x, e1, e2⟩ := bind1 q
    refine ⟨H0, B, A, ρ, x, S, e1, fun v H1 s1 r1 => ?_⟩
    split at e2
    · cases e2
      obtain ⟨a, vs, rfl, ha, r⟩ := r1.lst
      exact ⟨a, vs, rfl, .inl ⟨ha.sq, fun p hp => k _ _ (s1.trans (Sm.new hp)) (Rp.newL (S.muts.ext s1) r.reverse hp)⟩⟩
    · cases e2
      obtain ⟨a, vs, rfl, _, ha, r⟩ := r1.tup
      exact ⟨a, vs, rfl, .inr ⟨ha.sq, fun p o hp ho => k _ _ (s1.trans (Sm.new hp)) (Rp.newT (S.muts.ext s1) r.reverse hp ho)⟩⟩
    · cases e2

/-! ### e[i] -/
def rIxAll (K : PySem.W.Frag) : R2 := fun x y H Q => rIx K x y H Q ∨ rIxK x y H Q
theorem ix_all (hu : X.A.units + 1 < cLine) : IxR X (rIxAll X.K) := ix_seq.or (ix_dK hu)
def keyOf : D → Option Key
  | .str t => some (.inr t)
  | .int t => some (.inl t)
  | _ => none
def fIx (x y : D) : Option D := match x with
  | .tup ds => (match y with
    | .int i => atI ds i
    | _ => none)
  | .lst ds => (match y with
    | .int i => atI ds i
    | _ => none)
  | .str z => (match y with
    | .int i => if z.length ≤ 100000 then (atI z.cps.toList i).map fun c => .str ⟨#[c]⟩ else none
    | _ => none)
  | .dic kvs => (keyOf y).bind fun k => (kvs.find? fun p => decide (p.1 = k)).map (·.2)
  | _ => none
theorem RpL.atI {A : List Addr} {H : Hp} {ds : List D} {vs : List V} {i : Int} {d : D} (h : RpL A H ds vs) (e : L2.atI ds i = some d) : ∃ v, L2.atI vs i = some v ∧ Rp A H d v := by
  unfold L2.atI at e ⊢
  rw [h.length]
  cases q : ixN ds.length i with
  | none => rw [q] at e; cases e
  | some j =>
    rw [q] at e
    exact h.get e
theorem b2_ix (K : PySem.W.Frag) : B2 (rIxAll K) fIx := by
  intro A H x y v w Q d m rx ry e k
  unfold fIx at e
  split at e
  · split at e
    · obtain ⟨a, vs, rfl, _, ha, r⟩ := rx.tup
      obtain ⟨u, e1, e2⟩ := r.atI e
      exact .inl (.inr (.inl ⟨a, vs, _, u, rfl, ry.int, ha.sq, e1, k _ H (Sm.refl H) e2⟩))
    · cases e
  · split at e
    · obtain ⟨a, vs, rfl, ha, r⟩ := rx.lst
      obtain ⟨u, e1, e2⟩ := r.atI e
      exact .inl (.inl ⟨a, vs, _, u, rfl, ry.int, ha.sq, e1, k _ H (Sm.refl H) e2⟩)
    · cases e
  · split at e
    · split at e
      · rename_i z _ i hl
        cases q : L2.atI z.cps.toList i with
        | none => rw [q] at e; cases e
        | some c =>
          rw [q] at e; cases e
          exact .inl (.inr (.inr ⟨z, i, c, rx.str, ry.int, by rw [sizeLine_eq]; omega, q, k _ H (Sm.refl H) rfl⟩))
      · cases e
    · cases e
  · rename_i kvs
    obtain ⟨a, vs, rfl, ha, r⟩ := rx.dic
    obtain ⟨kk, e1, e2⟩ := bind1 e
    obtain ⟨_, i1, _⟩ := RpK.val (kvs' := vs) (k := kk) r
    cases q : kvs.find? (fun p => decide (p.1 = kk)) with
    | none => rw [q] at e2; cases e2
    | some p =>
      rw [q] at e2 i1
      cases e2
      obtain ⟨u, e3, e4⟩ := i1
      refine .inr ⟨a, vs, kk, u, rfl, ?_, ha, e3, k _ H (Sm.refl H) e4⟩
      cases y with
      | str t => cases e1; exact ry.str
      | int t => cases e1; exact ry.int
      | _ => cases e1
  · cases e
theorem q_ix {a b : Expr} {g h : Den} {pos : Pos} (hu : X.A.units + 1 < cLine) (ha : QV X a g) (hb : QV X b h) (hs : PlainIx b := by exact fun _ _ => rfl) : QE X (.Subscript a b pos) (d2 fIx g h) :=
  (pe_ix (ix_all hu) ha hb hs).imp fun σ H Q w => t2_of (b2_ix X.K) w

/-! ### e[i:j] -/
def tO (g : Rho → Option (Option Int)) : TO := fun σ H Q => ∃ H0 B A ρ o, Sim H0 B A H σ ρ ∧ g ρ = some o ∧ ∀ H', Sm H H' → Q o H'
abbrev QO (X : Cx) (e : Option Expr) (g : Rho → Option (Option Int)) : Prop := PO X e (tO g)
theorem _root_.L2.PO.imp {e : Option Expr} {t t' : TO} (h : PO X e t) (w : ∀ σ H Q, t' σ H Q → t σ H Q) : PO X e t' := ⟨fun pins s σ H Q I x => h.run pins s σ H Q I (w _ _ _ x)⟩
def dNoPart : Rho → Option (Option Int) := fun _ => some none
def dPart (g : Den) : Rho → Option (Option Int) := fun ρ => (g ρ).bind fun d => match d with
  | .int i => some (some i)
  | _ => none
theorem qo_none : QO X none dNoPart := po_none.imp fun σ H Q ⟨H0, B, A, ρ, o, S, q, k⟩ => by
  cases q
  exact k H (Sm.refl H)
theorem qo_some {e : Expr} {g : Den} (h : QV X e g) : QO X (some e) (dPart g) := (po_some h).imp fun σ H Q ⟨H0, B, A, ρ, o, S, q, k⟩ => by
  obtain ⟨d, e1, e2⟩ := bind1 q
  refine ⟨H0, B, A, ρ, d, S, e1, fun v H' s r => ?_⟩
  split at e2
  · cases e2
    exact ⟨_, r.int, k H' s⟩
  · cases e2
def cutD {α : Type} (xs : List α) (lo hi : Option Int) : List α := (xs.drop (HT.sIx xs.length 0 lo)).take (HT.sIx xs.length xs.length hi - HT.sIx xs.length 0 lo)
theorem RpL.cutD {A : List Addr} {H : Hp} {ds : List D} {vs : List V} (h : RpL A H ds vs) (lo hi : Option Int) : RpL A H (cutD ds lo hi) (cutV vs lo hi) := by
  unfold LY.cutD cutV
  rw [h.length]
  exact (h.drop _).take _
/-- t[lo:hi] -/
def rSlTS (K : PySem.W.Frag) : V → Option Int → Option Int → Hp → VK → Prop := fun x lo hi H Q => ∃ a xs, x = .ref a ∧ SqT K H a xs ∧
  (HT.sIx xs.length 0 lo = 0 ∧ HT.sIx xs.length xs.length hi = xs.length → Q (.ref a) H) ∧ (¬ (HT.sIx xs.length 0 lo = 0 ∧ HT.sIx xs.length xs.length hi = xs.length) → ∀ (p : Addr) (o : Obj), H p = none → o.dict = none → Q (.ref p) (upd H p (.frz o (.tup (cutV xs lo hi)))))
theorem sl_tupS : SlR X (rSlTS X.K) := by
  intro pins s σ H x v vl vu lo hi sl Q I rx hs pl pu h
  obtain ⟨a, xs, rfl, hx, q1, q2⟩ := h
  by_cases hw : HT.sIx xs.length 0 lo = 0 ∧ HT.sIx xs.length xs.length hi = xs.length
  · exact sl_tupA pins s σ H _ v vl vu lo hi sl Q I rx hs pl pu ⟨a, xs, rfl, hx, q1, fun n => absurd hw n⟩
  · cases rx
    obtain ⟨its, r, ht, hz⟩ := I.tuple hx
    have hlen : its.toArray.size = xs.length := by rw [List.size_toArray]; exact r.length.symm
    refine ⟨"tuple", _, PyProof.Rows.slot_tuple_getitem.lookup, ht.typeIs, ?_⟩
    refine HT.getItem_tuple_cut ht hs pl pu (by rw [hlen]; exact hw) ?_ (by rw [hlen]; exact hz)
    rw [hlen]
    refine ⟨.ref s.heap.objs.size, _, I.laid (t' := s.toks) (o := .frz { cls := .type "tuple", data := .seq (((its.drop (HT.sIx xs.length 0 lo)).take (HT.sIx xs.length xs.length hi - HT.sIx xs.length 0 lo))).toArray } (.tup (cutV xs lo hi))) (fun b ob q => Heap.get?_push_of_some _ q) (Nat.le_refl _) ?_, rfl, q2 hw _ _ (I.hok.fresh (Nat.le_refl _)) rfl⟩
    exact ⟨Heap.get?_push_size _ rfl, Nat.le_trans (cutV_length xs lo hi) hz, _, (r.drop (HT.sIx xs.length 0 lo)).take (HT.sIx xs.length xs.length hi - HT.sIx xs.length 0 lo), IsTup.new _ _⟩
def rSlAll (K : PySem.W.Frag) : V → Option Int → Option Int → Hp → VK → Prop := fun x lo hi H Q => (rSlTS K x lo hi H Q ∨ rSlL K x lo hi H Q) ∨ rSlS x lo hi H Q
theorem sl_all : SlR X (rSlAll X.K) := (sl_tupS.or sl_list).or sl_str
def fSl (x : D) (lo hi : Option Int) : Option D := match x with
  | .tup ds => some (.tup (cutD ds lo hi))
  | .lst ds => some (.lst (cutD ds lo hi))
  | .str z => if z.length ≤ 100000 then some (.str (cutS z lo hi)) else none
  | _ => none
def dSl (g : Den) (l h : Rho → Option (Option Int)) : Den := fun ρ => (g ρ).bind fun x => (l ρ).bind fun lo => (h ρ).bind fun hi => fSl x lo hi
theorem cutD_whole {α : Type} {xs : List α} {lo hi : Option Int} (h : HT.sIx xs.length 0 lo = 0 ∧ HT.sIx xs.length xs.length hi = xs.length) : cutD xs lo hi = xs := by
  unfold cutD
  rw [h.1, h.2]
  simp
theorem q_slice {e : Expr} {lo hi : Option Expr} {g : Den} {gl gh : Rho → Option (Option Int)} {p2 pos : Pos} (he : QV X e g) (hl : QO X lo gl) (hh : QO X hi gh) : QE X (.Subscript e (.Slice lo hi none p2) pos) (dSl g gl gh) :=
  (pe_slice sl_all he hl hh).imp fun σ H Q ⟨H0, B, A, ρ, d, S, q, k⟩ => by
    obtain ⟨x, e1, q⟩ := bind1 q
    obtain ⟨l, e2, q⟩ := bind1 q
    obtain ⟨h, e3, q⟩ := bind1 q
    refine ⟨H0, B, A, ρ, x, S, e1, fun v H1 s1 r1 => ⟨H0, B, A, ρ, l, S.ext s1, e2, fun H2 s2 => ⟨H0, B, A, ρ, h, (S.ext s1).ext s2, e3, fun H3 s3 => ?_⟩⟩⟩
    have r3 := (r1.ext s2).ext s3
    have m3 := ((S.muts.ext s1).ext s2).ext s3
    have s13 := (s1.trans s2).trans s3
    unfold fSl at q
    split at q
    · cases q
      obtain ⟨a, vs, rfl, na, ha, r⟩ := r3.tup
      refine .inl (.inl ⟨a, vs, rfl, ha.sq, fun z => k _ _ s13 ⟨a, vs, rfl, na, ha, ?_⟩, fun _ p o hp ho => k _ _ (s13.trans (Sm.new hp)) (Rp.newT m3 (r.cutD l h) hp ho)⟩)
      rw [r.length] at z
      rw [cutD_whole z]
      exact r
    · cases q
      obtain ⟨a, vs, rfl, ha, r⟩ := r3.lst
      exact .inl (.inr ⟨a, vs, rfl, ha.sq, fun p hp => k _ _ (s13.trans (Sm.new hp)) (Rp.newL m3 (r.cutD l h) hp)⟩)
    · split at q
      · cases q
        exact .inr ⟨_, r3.str, by rw [sizeLine_eq]; omega, k _ _ s13 rfl⟩
      · cases q
    · cases q
end
end LY
set_option Elab.async false
set_option linter.all false
set_option maxRecDepth 100000
set_option maxHeartbeats 1000000
/-! LY5: calls -/
namespace LY
open PySem PySem.Spec PyProof.Rows L2
section
variable {X : Cx}
theorem _root_.L2.PE.or {e : Expr} {t t' : TE} (h : PE X e t) (h' : PE X e t') : PE X e (fun σ H Q => t σ H Q ∨ t' σ H Q) :=
  ⟨fun pins s σ H Q I x => x.elim (h.run pins s σ H Q I) (h'.run pins s σ H Q I)⟩
theorem callR_or {f : Value} {r r' : List V → Hp → VK → Prop} (h : CallR X f r) (h' : CallR X f r') : CallR X f (fun xs H Q => r xs H Q ∨ r' xs H Q) := by
  intro pins s σ H xs us Q I rx q
  rcases q with q | q
  · exact h pins s σ H xs us Q I rx q
  · exact h' pins s σ H xs us Q I rx q
/-- a one-place built-in over views -/
def B1 (r : List V → Hp → VK → Prop) (F : D → Option D) : Prop := ∀ (A : List Addr) (H : Hp) (x : D) (v : V) (Q : VK) (d : D), MutA A H → Vw A H x v → F x = some d → (∀ u H', Sm H H' → Rp A H' d u → Q u H') → r [v] H Q
def d1 (F : D → Option D) (g : Den) : Den := fun ρ => (g ρ).bind F
theorem qlv_one {e : Expr} {g : Den} (he : QV X e g) (hs : starEach [e] X.env = (false, eval e X.env) :: starEach [] X.env := by rfl) : QLV X [e] (dCons g dNil) := qlv_cons he qlv_nil hs
theorem t1_of {r : List V → Hp → VK → Prop} {F : D → Option D} (b : B1 r F) {g : Den} {σ : L2.St} {H : Hp} {Q : VK} (w : tE (d1 F g) σ H Q) : tLV (dCons g dNil) σ H (fun vs H1 => r vs H1 Q) := by
  obtain ⟨H0, B, A, ρ, d, S, q, k⟩ := w
  obtain ⟨x, e1, e2⟩ := bind1 q
  refine ⟨H0, B, A, ρ, [x], S, by simp [dCons, dNil, e1], fun vs H1 s1 r1 => ?_⟩
  obtain ⟨v, rr, rfl, r2, r3⟩ := r1
  rw [show rr = [] from r3]
  exact b A H1 x v Q d (S.muts.ext s1) r2 e2 fun u H2 s2 r2 => k u H2 (s1.trans s2) r2
theorem q_callB {id : String} {x : Str} {p pos : Pos} {e : Expr} {g : Den} {r : List V → Hp → VK → Prop} {F : D → Option D} (hc : CallR X (.builtin id) r) (b : B1 r F) (hg : Gl X x) (hm : X.mg x = none) (hv : bootBuiltins x = some (.builtin id)) (ha : QV X e g)
    (hn : x ≠ "__name__" := by decide) (hdb : (x == ("__debug__" : Str)) = false := by decide) (he : starEach [e] X.env = (false, eval e X.env) :: starEach [] X.env := by rfl) : QE X (.Call (.Name x p) [e] [] pos) (d1 F g) :=
  (pe_callB hc hg hm hv (qlv_one ha he) hn hdb he (by rfl)).imp fun σ H Q w => t1_of b w
theorem q_callTy {id : String} {x : Str} {p pos : Pos} {e : Expr} {g : Den} {r : List V → Hp → VK → Prop} {F : D → Option D} (hc : CallR X (.type id) r) (b : B1 r F) (hg : Gl X x) (hm : X.mg x = none) (hv : bootBuiltins x = some (.type id)) (ha : QV X e g)
    (hn : x ≠ "__name__" := by decide) (hdb : (x == ("__debug__" : Str)) = false := by decide) (he : starEach [e] X.env = (false, eval e X.env) :: starEach [] X.env := by rfl) : QE X (.Call (.Name x p) [e] [] pos) (d1 F g) :=
  (pe_callTy hc hg hm hv (qlv_one ha he) hn hdb he (by rfl)).imp fun σ H Q w => t1_of b w

/-! ### len -/
def fLen (d : D) : Option D := match d with
  | .str z => if z.length ≤ 100000 then some (.int z.length) else none
  | .lst ds => some (.int ds.length)
  | .tup ds => some (.int ds.length)
  | _ => none
theorem b1_len (K : PySem.W.Frag) : B1 (fun xs H Q => ∃ x n, xs = [x] ∧ LenV K x H n ∧ Q (.int n) H) fLen := by
  intro A H x v Q d m rx e k
  unfold fLen at e
  split at e
  · split at e
    · cases e
      rename_i z hl
      refine ⟨v, z.length, rfl, ?_, k _ H (Sm.refl H) rfl⟩
      rw [rx.str]
      exact ⟨by rw [sizeLine_eq]; omega, rfl⟩
    · cases e
  · cases e
    rename_i ds
    obtain ⟨a, vs, rfl, ha, r⟩ := rx.lst
    exact ⟨_, ds.length, rfl, .inl ⟨vs, ha.sq, r.length.symm⟩, k _ H (Sm.refl H) rfl⟩
  · cases e
    rename_i ds
    obtain ⟨a, vs, rfl, _, ha, r⟩ := rx.tup
    exact ⟨_, ds.length, rfl, .inr ⟨vs, ha.sq, r.length.symm⟩, k _ H (Sm.refl H) rfl⟩
  · cases e
theorem q_len {p pos : Pos} {e : Expr} {g : Den} (hg : Gl X "len") (hm : X.mg "len" = none) (ha : QV X e g) (he : starEach [e] X.env = (false, eval e X.env) :: starEach [] X.env := by rfl) : QE X (.Call (.Name "len" p) [e] [] pos) (d1 fLen g) :=
  q_callB call_len (b1_len X.K) hg hm boot_len ha (by decide) (by decide) he
/-! ### all, any, sum, max, min -/
def boolsD : List D → Option (List Bool)
  | [] => some []
  | .bl b :: ds => (boolsD ds).map (b :: ·)
  | _ :: _ => none
theorem bools_map {ds : List D} {bs : List Bool} (h : boolsD ds = some bs) : ds = bs.map D.bl := by
  induction ds generalizing bs with
  | nil => cases h; rfl
  | cons d ds ih =>
    cases d with
    | bl b =>
      simp only [boolsD, Option.map_eq_some_iff] at h
      obtain ⟨cs, e, rfl⟩ := h
      rw [ih e]; rfl
    | _ => cases h
theorem bools_of (bs : List Bool) : boolsD (bs.map D.bl) = some bs := by
  induction bs with
  | nil => rfl
  | cons b bs ih => simp [boolsD, ih]
def intsD : List D → Option (List Int)
  | [] => some []
  | .int b :: ds => (intsD ds).map (b :: ·)
  | _ :: _ => none
theorem ints_map {ds : List D} {bs : List Int} (h : intsD ds = some bs) : ds = bs.map D.int := by
  induction ds generalizing bs with
  | nil => cases h; rfl
  | cons d ds ih =>
    cases d with
    | int b =>
      simp only [intsD, Option.map_eq_some_iff] at h
      obtain ⟨cs, e, rfl⟩ := h
      rw [ih e]; rfl
    | _ => cases h
theorem ints_of (bs : List Int) : intsD (bs.map D.int) = some bs := by
  induction bs with
  | nil => rfl
  | cons b bs ih => simp [intsD, ih]
def strsD : List D → Option (List Str)
  | [] => some []
  | .str b :: ds => (strsD ds).map (b :: ·)
  | _ :: _ => none
theorem strs_map {ds : List D} {bs : List Str} (h : strsD ds = some bs) : ds = bs.map D.str := by
  induction ds generalizing bs with
  | nil => cases h; rfl
  | cons d ds ih =>
    cases d with
    | str b =>
      simp only [strsD, Option.map_eq_some_iff] at h
      obtain ⟨cs, e, rfl⟩ := h
      rw [ih e]; rfl
    | _ => cases h
theorem strs_of (bs : List Str) : strsD (bs.map D.str) = some bs := by
  induction bs with
  | nil => rfl
  | cons b bs ih => simp [strsD, ih]
def fBools (f : List Bool → Bool) (d : D) : Option D := match d with
  | .lst ds => (boolsD ds).map fun bs => .bl (f bs)
  | _ => none
abbrev fAll := fBools fun bs => bs.all id
abbrev fAny := fBools fun bs => bs.any id
theorem fBools_some {f : List Bool → Bool} {x d : D} (e : fBools f x = some d) : ∃ bs : List Bool, x = .lst (bs.map D.bl) ∧ d = .bl (f bs) := by
  unfold fBools at e
  split at e
  · rw [Option.map_eq_some_iff] at e
    obtain ⟨bs, e, rfl⟩ := e
    exact ⟨bs, by rw [bools_map e], rfl⟩
  · cases e
theorem b1_all (K : PySem.W.Frag) : B1 (rAll K) fAll := by
  intro A H x v Q d m rx e k
  obtain ⟨bs, rfl, rfl⟩ := fBools_some e
  obtain ⟨a, vs, rfl, ha, r⟩ := rx.lst
  rw [r.bls] at ha
  exact ⟨a, bs, rfl, ha.sq, k _ H (Sm.refl H) rfl⟩
theorem b1_any (K : PySem.W.Frag) : B1 (rAny K) fAny := by
  intro A H x v Q d m rx e k
  obtain ⟨bs, rfl, rfl⟩ := fBools_some e
  obtain ⟨a, vs, rfl, ha, r⟩ := rx.lst
  rw [r.bls] at ha
  exact ⟨a, bs, rfl, ha.sq, k _ H (Sm.refl H) rfl⟩
def fInts (f : List Int → Option Int) (d : D) : Option D := match d with
  | .lst ds => (intsD ds).bind fun bs => (f bs).map D.int
  | _ => none
theorem fInts_some {f : List Int → Option Int} {x d : D} (e : fInts f x = some d) : ∃ (bs : List Int) (i : Int), x = .lst (bs.map D.int) ∧ d = .int i ∧ f bs = some i := by
  unfold fInts at e
  split at e
  · obtain ⟨bs, e1, e2⟩ := bind1 e
    rw [Option.map_eq_some_iff] at e2
    obtain ⟨i, e2, rfl⟩ := e2
    exact ⟨bs, i, by rw [ints_map e1], rfl, e2⟩
  · cases e
abbrev fSum := fInts fun bs => some bs.sum
abbrev fMax := fInts fun bs => bs.max?
abbrev fMin := fInts fun bs => bs.min?
theorem b1_sum (K : PySem.W.Frag) : B1 (rSum K) fSum := by
  intro A H x v Q d m rx e k
  obtain ⟨bs, i, rfl, rfl, e2⟩ := fInts_some e
  cases e2
  obtain ⟨a, vs, rfl, ha, r⟩ := rx.lst
  rw [r.ints] at ha
  exact ⟨a, bs, rfl, ha.sq, k _ H (Sm.refl H) rfl⟩
theorem b1_max (K : PySem.W.Frag) : B1 (rMax K) fMax := by
  intro A H x v Q d m rx e k
  obtain ⟨bs, i, rfl, rfl, e2⟩ := fInts_some e
  obtain ⟨a, vs, rfl, ha, r⟩ := rx.lst
  rw [r.ints] at ha
  have e' := List.max?_eq_some_iff.mp e2
  refine ⟨a, bs, rfl, ha.sq, by cases bs <;> simp_all, fun mm h1 h2 => ?_⟩
  have : mm = i := by
    have a1 := e'.2 mm h1
    have a2 := h2 i e'.1
    omega
  rw [this]
  exact k _ H (Sm.refl H) rfl
theorem b1_min (K : PySem.W.Frag) : B1 (rMin K) fMin := by
  intro A H x v Q d m rx e k
  obtain ⟨bs, i, rfl, rfl, e2⟩ := fInts_some e
  obtain ⟨a, vs, rfl, ha, r⟩ := rx.lst
  rw [r.ints] at ha
  have e' := List.min?_eq_some_iff.mp e2
  refine ⟨a, bs, rfl, ha.sq, by cases bs <;> simp_all, fun mm h1 h2 => ?_⟩
  have : mm = i := by
    have a1 := e'.2 mm h1
    have a2 := h2 i e'.1
    omega
  rw [this]
  exact k _ H (Sm.refl H) rfl
/-! ### tuple(x), list(x) -/
def fTuple (d : D) : Option D := d.items.map D.tup
def rTupS (K : PySem.W.Frag) : List V → Hp → VK → Prop := fun xs H Q => ∃ p ys, xs = [.ref p] ∧ ((SqL K H p ys ∧ ∀ (l : Addr) (o : Obj), H l = none → o.dict = none → Q (.ref l) (upd H l (.frz o (.tup ys)))) ∨ (SqT K H p ys ∧ Q (.ref p) H))
theorem call_tupS : CallR X (.type "tuple") (rTupS X.K) := by
  intro pins s σ H xs us Q I r h
  obtain ⟨p, ys, rfl, h⟩ := h
  rcases h with ⟨hq, q⟩ | ⟨hq, q⟩
  · obtain ⟨u, rfl, rx⟩ := vals1 r
    cases rx
    obtain ⟨its, r', pl, hz⟩ := I.list hq
    have hlen := r'.length
    refine call_tuple_list pl.isList (fun h' kp => ?_) (by simp only [List.size_toArray] <;> omega)
    have I1 : Inv X pins σ H { s with heap := h' } := I.kept (t' := s.toks) kp
    have I2 : Inv X pins σ (upd H h'.objs.size (.frz { cls := .type "tuple", data := .seq its.toArray } (.tup ys))) { s with heap := h'.push { cls := .type "tuple", data := .seq its.toArray } } :=
      I1.laid (t' := s.toks) (fun b o e => Heap.get?_push_of_some _ e) (Nat.le_refl _) ⟨Heap.get?_push_size _ rfl, hz, its, r', IsTup.new _ _⟩
    exact ⟨.ref h'.objs.size, _, I2, rfl, q _ _ (I1.hok.fresh (Nat.le_refl _)) rfl⟩
  · exact call_tupleT pins s σ H _ us Q I r ⟨p, ys, rfl, hq, q⟩
theorem b1_tuple (K : PySem.W.Frag) : B1 (rTupS K) fTuple := by
  intro A H x v Q d m rx e k
  unfold fTuple at e
  cases x with
  | lst ds =>
    cases e
    obtain ⟨a, vs, rfl, ha, r⟩ := rx.lst
    exact ⟨a, vs, rfl, .inl ⟨ha.sq, fun l o hl ho => k _ _ (Sm.new hl) (Rp.newT m r hl ho)⟩⟩
  | tup ds =>
    cases e
    obtain ⟨a, vs, rfl, na, ha, r⟩ := rx.tup
    exact ⟨a, vs, rfl, .inr ⟨ha.sq, k _ H (Sm.refl H) ⟨a, vs, rfl, na, ha, r⟩⟩⟩
  | _ => cases e
/-- a new list of a view's items -/
def dItems (g : Den) : Rho → Option (List D) := fun ρ => (g ρ).bind D.items
theorem f_list {p pos : Pos} {e : Expr} {g : Den} (hg : Gl X "list") (hm : X.mg "list" = none) (ha : QV X e g) (he : starEach [e] X.env = (false, eval e X.env) :: starEach [] X.env := by rfl) : QF X (.Call (.Name "list" p) [e] [] pos) (dItems g) :=
  (pe_callTy call_list_of hg hm boot_list (qlv_one ha he) (by decide) (by decide) he (by rfl)).imp fun σ H Q ⟨H0, B, A, ρ, d, S, q, k⟩ => by
    obtain ⟨x, e1, e2⟩ := bind1 q
    refine ⟨H0, B, A, ρ, [x], S, by simp [dCons, dNil, e1], fun vs H1 s1 r1 => ?_⟩
    obtain ⟨v, rr, rfl, r2, r3⟩ := r1
    rw [show rr = [] from r3]
    obtain ⟨a, vs, rfl, ha, r⟩ := r2.items e2
    refine ⟨a, vs, rfl, ?_, fun l hl => k l vs _ (s1.trans (Sm.new hl)) (s1.none hl) upd_same ((r.addNew hl).ext (Sm.new hl).x)⟩
    rcases ha with ha | ha
    · exact .inl (ha.sq)
    · exact .inr (ha.sq)
/-! ### str, int of numbers -/
def fStrI (d : D) : Option D := match d with
  | .int i => if i.natAbs.log2 < 1920 then some (.str (toString i)) else none
  | _ => none
theorem b1_str : B1 (fun xs H Q => ∃ i, xs = [.int i] ∧ i.natAbs.log2 < 1920 ∧ Q (.str (toString i)) H) fStrI := by
  intro A H x v Q d m rx e k
  unfold fStrI at e
  split at e
  · split at e
    · cases e
      rename_i h
      exact ⟨_, by rw [rx.int], h, k _ H (Sm.refl H) rfl⟩
    · cases e
  · cases e
def fInt (d : D) : Option D := match d with
  | .int i => some (.int i)
  | .bl b => some (.int (if b then 1 else 0))
  | _ => none
theorem b1_int : B1 (fun xs H Q => (∃ i, xs = [.int i] ∧ Q (.int i) H) ∨ ∃ k, xs = [.bl k] ∧ Q (.int (if k then 1 else 0)) H) fInt := by
  intro A H x v Q d m rx e k
  unfold fInt at e
  split at e
  · cases e
    exact .inl ⟨_, by rw [rx.int], k _ H (Sm.refl H) rfl⟩
  · cases e
    exact .inr ⟨_, by rw [rx.bl], k _ H (Sm.refl H) rfl⟩
  · cases e
def fAbs (d : D) : Option D := match d with
  | .int i => some (.int (if i < 0 then -i else i))
  | _ => none
theorem b1_abs : B1 (fun xs H Q => ∃ i, xs = [.int i] ∧ Q (.int (if i < 0 then -i else i)) H) fAbs := by
  intro A H x v Q d m rx e k
  unfold fAbs at e
  split at e
  · cases e
    exact ⟨_, by rw [rx.int], k _ H (Sm.refl H) rfl⟩
  · cases e
/-! ### two-place built-ins -/
def B2L (r : List V → Hp → VK → Prop) (F : D → D → Option D) : Prop := ∀ (A : List Addr) (H : Hp) (x y : D) (v w : V) (Q : VK) (d : D), MutA A H → Vw A H x v → Vw A H y w → F x y = some d → (∀ u H', Sm H H' → Rp A H' d u → Q u H') → r [v, w] H Q
theorem t2l_of {r : List V → Hp → VK → Prop} {F : D → D → Option D} (b : B2L r F) {g h : Den} {σ : L2.St} {H : Hp} {Q : VK} (w : tE (d2 F g h) σ H Q) : tLV (dCons g (dCons h dNil)) σ H (fun vs H1 => r vs H1 Q) := by
  obtain ⟨H0, B, A, ρ, d, S, q, k⟩ := w
  obtain ⟨x, y, e1, e2, e3⟩ := bind2 q
  refine ⟨H0, B, A, ρ, [x, y], S, by simp [dCons, dNil, e1, e2], fun vs H1 s1 r1 => ?_⟩
  obtain ⟨v, rr, rfl, r2, u, rr2, rfl, r4, r5⟩ := r1
  rw [show rr2 = [] from r5]
  exact b A H1 x y v u Q d (S.muts.ext s1) r2 r4 e3 fun u H2 s2 r2 => k u H2 (s1.trans s2) r2
theorem q_callB2 {id : String} {x : Str} {p pos : Pos} {e e' : Expr} {g h : Den} {r : List V → Hp → VK → Prop} {F : D → D → Option D} (hc : CallR X (.builtin id) r) (b : B2L r F) (hg : Gl X x) (hm : X.mg x = none) (hv : bootBuiltins x = some (.builtin id)) (ha : QV X e g) (hb : QV X e' h)
    (hn : x ≠ "__name__" := by decide) (hdb : (x == ("__debug__" : Str)) = false := by decide) (he : starEach [e, e'] X.env = (false, eval e X.env) :: starEach [e'] X.env := by rfl) (he' : starEach [e'] X.env = (false, eval e' X.env) :: starEach [] X.env := by rfl)
    (hpl : (backTo pos (starEach [e'] X.env)).any (·.1) = false := by rfl) : QE X (.Call (.Name x p) [e, e'] [] pos) (d2 F g h) :=
  (pe_callB hc hg hm hv (qlv_cons ha (qlv_one hb he') he) hn hdb he hpl).imp fun σ H Q w => t2l_of b w
theorem b2l_max : B2L (fun xs H Q => ∃ i j, xs = [.int i, .int j] ∧ Q (.int (if j > i then j else i)) H) (fI fun i j => some (.int (if j > i then j else i))) := by
  intro A H x y v w Q d m rx ry e k
  obtain ⟨i, j, rfl, rfl, e⟩ := fI_some e
  cases e
  exact ⟨i, j, by rw [rx.int, ry.int], k _ H (Sm.refl H) rfl⟩
theorem b2l_min : B2L (fun xs H Q => ∃ i j, xs = [.int i, .int j] ∧ Q (.int (if j < i then j else i)) H) (fI fun i j => some (.int (if j < i then j else i))) := by
  intro A H x y v w Q d m rx ry e k
  obtain ⟨i, j, rfl, rfl, e⟩ := fI_some e
  cases e
  exact ⟨i, j, by rw [rx.int, ry.int], k _ H (Sm.refl H) rfl⟩
/-! ### isinstance(x, T), T a built-in class -/
def D.tyS : D → Option String
  | .non => some "NoneType"
  | .bl _ => some "bool"
  | .int _ => some "int"
  | .str _ => some "str"
  | .tup _ => some "tuple"
  | .lst _ => some "list"
  | .dic _ => some "dict"
  | _ => none
theorem Vw.tyx {K : PySem.W.Frag} {A : List Addr} {H : Hp} {d : D} {v : V} {t : String} (h : Vw A H d v) (e : d.tyS = some t) : TyX K H v (.type t) := by
  cases d with
  | non => cases e; rw [h.non]; exact .base .non
  | bl b => cases e; rw [h.bl]; exact .base (.bl b)
  | int b => cases e; rw [h.int]; exact .base (.int b)
  | str b => cases e; rw [h.str]; exact .base (.str b)
  | tup b => cases e; obtain ⟨a, vs, rfl, _, ha, _⟩ := h.tup; obtain ⟨o, ha, _⟩ := ha; exact .fTuple ha
  | lst b => cases e; obtain ⟨a, vs, rfl, ha, _⟩ := h.lst; rcases ha with ha | ⟨o, ha⟩; exact .base (.lst ha); exact .base (.frz ha)
  | dic b =>
    cases e
    obtain ⟨a, vs, rfl, ha, _⟩ := h.dic
    rcases ha with ha | ⟨o, ha⟩
    · exact .base (.dK ha)
    · exact .fDict ha
  | raw _ => cases e
  | ins _ _ => cases e
  | exc _ _ => cases e
  | clo _ => cases e
def isT (t T : String) : Bool := t == T || (t == "bool" && T == "int")
def fIsi (T : String) (d : D) : Option D := d.tyS.map fun t => .bl (isT t T)
/-- T is one of these -/
def isTT (T : String) : Bool := T == "str" || T == "int" || T == "tuple" || T == "list" || T == "bool" || T == "dict"
theorem kit_isT {K : PySem.W.Frag} {t T : String} {d : D} (h : d.tyS = some t) (hT : isTT T = true) : PySem.W.kitOne K (.type t) (.type T) = some (isT t T) := by
  have hT' : T = "str" ∨ T = "int" ∨ T = "tuple" ∨ T = "list" ∨ T = "bool" ∨ T = "dict" := by
    unfold isTT at hT
    simp only [Bool.or_eq_true, beq_iff_eq] at hT
    rcases hT with ((((h | h) | h) | h) | h) | h <;> simp [h]
  rcases hT' with rfl | rfl | rfl | rfl | rfl | rfl <;> (cases d <;> first | (cases h; exact kit_ty (by decide +kernel)) | cases h)
theorem b2l_isi (K : PySem.W.Frag) {T : String} (hT : isTT T = true) : ∀ (A : List Addr) (H : Hp) (x : D) (v : V) (Q : VK) (d : D), Vw A H x v → fIsi T x = some d → (∀ u H', Sm H H' → Rp A H' d u → Q u H') → rIsi K [v, .ty T] H Q := by
  intro A H x v Q d rx e k
  unfold fIsi at e
  cases q : x.tyS with
  | none => rw [q] at e; cases e
  | some t =>
    rw [q] at e; cases e
    exact ⟨v, .ty T, .type t, .type T, isT t T, rfl, .ty T, rx.tyx q, kit_isT q hT, k _ H (Sm.refl H) rfl⟩
theorem q_isi {T : String} {x : Str} {p p2 pos : Pos} {e : Expr} {g : Den} (hT : isTT T = true) (hg : Gl X "isinstance") (hm : X.mg "isinstance" = none) (hgT : Gl X x) (hmT : X.mg x = none) (hv : bootBuiltins x = some (.type T)) (ha : QV X e g)
    (hn : x ≠ "__name__" := by decide) (hdb : (x == ("__debug__" : Str)) = false := by decide) (he : starEach [e, .Name x p2] X.env = (false, eval e X.env) :: starEach [.Name x p2] X.env := by rfl)
    (he' : starEach [.Name x p2] X.env = (false, eval (.Name x p2) X.env) :: starEach [] X.env := by rfl)
    (hpl : (backTo pos (starEach [.Name x p2] X.env)).any (·.1) = false := by rfl) : QE X (.Call (.Name "isinstance" p) [e, .Name x p2] [] pos) (d1 (fIsi T) g) :=
  (pe_callB call_isi hg hm (by decide +kernel) (pa_cons ha (pa_cons (pe_bltn (v := .ty T) hgT hmT hv rfl hn hdb) pa_nil he') he) (by decide) (by decide) he hpl).imp fun σ H Q ⟨H0, B, A, ρ, d, S, q, k⟩ => by
    obtain ⟨x, e1, e2⟩ := bind1 q
    exact ⟨H0, B, A, ρ, x, S, e1, fun v H1 s1 r1 => b2l_isi X.K hT A H1 x v Q d r1 e2 fun u H2 s2 r2 => k u H2 (s1.trans s2) r2⟩
/-! ### own defs -/
/-- the promise of a def that computes F from data -/
def spQ (F : List D → Option D) : Sp := fun vs H Q _ => ∃ A ds d, MutA A H ∧ RpL A H ds vs ∧ F ds = some d ∧ ∀ v H', Sm H H' → Rp A H' d v → Q v H'
/-- .. and that gives a new list -/
def spQF (F : List D → Option (List D)) : Sp := fun vs H Q _ => ∃ A ds xs, MutA A H ∧ RpL A H ds vs ∧ F ds = some xs ∧ ∀ p ys H', Sm H H' → H p = none → H' p = some (.lst ys) → RpL (p :: A) H' xs ys → Q (.ref p) H'
/-- the module's name x is a def at f that keeps sp -/
structure Fn (P : Program) (w : World) (K : PySem.W.Frag) (mg : Str → Option Value) (base : Heap) (k : Nat) (x : Str) (sp : Sp) : Prop where
  ex : ∃ (f : Addr) (fd : FuncData) (ps : List Str), mg x = some (.ref f) ∧ FnOk P w K mg base CX0 k f fd ps sp ∧ PySem.W.keepIn K (.ref f) = true ∧ Binds K fd ps []
theorem Fn.imp {P : Program} {w : World} {K : PySem.W.Frag} {mg : Str → Option Value} {base : Heap} {k : Nat} {x : Str} {sp sp' : Sp} (F : Fn P w K mg base k x sp) (h : ∀ vs H Q E, sp' vs H Q E → sp vs H Q E) : Fn P w K mg base k x sp' := by
  obtain ⟨f, fd, ps, h1, h2, h3, h4⟩ := F.ex
  exact ⟨f, fd, ps, h1, h2.imp h, h3, h4⟩
abbrev FnX (X : Cx) (k : Nat) (x : Str) (sp : Sp) : Prop := Fn X.prog X.w X.K X.mg X.base k x sp
def dCall (F : List D → Option D) (g : Rho → Option (List D)) : Den := fun ρ => (g ρ).bind F
theorem q_call {k : Nat} {x : Str} {F : List D → Option D} {p pos : Pos} {e : Expr} {es : List Expr} {g : Rho → Option (List D)} (G : FnX X k x (spQ F)) (hr : Room k X.A) (hg : Gl X x) (ha : QL X (e :: es) g)
    (hdb : (x == ("__debug__" : Str)) = false := by decide) (he : starEach (e :: es) X.env = (false, eval e X.env) :: starEach es X.env := by rfl) (hpl : (backTo pos (starEach es X.env)).any (·.1) = false := by rfl) :
    QE X (.Call (.Name x p) (e :: es) [] pos) (dCall F g) := by
  obtain ⟨f, fd, ps, h1, h2, h3, h4⟩ := G.ex
  refine (pe_call h2 hr hg h1 h3 h4 .nil pass0 ha hdb he hpl).imp fun σ H Q ⟨H0, B, A, ρ, d, S, q, k⟩ => ?_
  obtain ⟨ds, e1, e2⟩ := bind1 q
  refine ⟨H0, B, A, ρ, ds, S, e1, fun vs H1 s1 r1 => ?_⟩
  exact ⟨A, ds, d, S.muts.ext s1, by rw [List.append_nil]; exact r1, e2, fun v H2 s2 r2 => k v H2 (s1.trans s2) r2⟩
theorem q_callV {k : Nat} {x : Str} {F : List D → Option D} {p pos : Pos} {e : Expr} {es : List Expr} {g : Rho → Option (List D)} (G : FnX X k x (spQ F)) (hr : Room k X.A) (hg : Gl X x) (ha : QLV X (e :: es) g)
    (hdb : (x == ("__debug__" : Str)) = false := by decide) (he : starEach (e :: es) X.env = (false, eval e X.env) :: starEach es X.env := by rfl) (hpl : (backTo pos (starEach es X.env)).any (·.1) = false := by rfl) :
    QE X (.Call (.Name x p) (e :: es) [] pos) (dFlat (dCall F g)) := by
  obtain ⟨f, fd, ps, h1, h2, h3, h4⟩ := G.ex
  refine (pe_call h2 hr hg h1 h3 h4 .nil pass0 ha hdb he hpl).imp fun σ H Q ⟨H0, B, A, ρ, d, S, q, k⟩ => ?_
  obtain ⟨x, e0, e3⟩ := bind1 q
  obtain ⟨ds, e1, e2⟩ := bind1 e0
  split at e3
  · cases e3
    rename_i hf
    refine ⟨H0, B, A, ρ, ds, S, e1, fun vs H1 s1 r1 => ?_⟩
    exact ⟨[], ds, _, MutA.nil _, by rw [List.append_nil]; exact r1.nil', e2, fun v H2 s2 r2 => k v H2 (s1.trans s2) (r2.flat ((S.muts.ext s1).ext s2) hf)⟩
  · cases e3
theorem f_call {k : Nat} {x : Str} {F : List D → Option (List D)} {p pos : Pos} {e : Expr} {es : List Expr} {g : Rho → Option (List D)} (G : FnX X k x (spQF F)) (hr : Room k X.A) (hg : Gl X x) (ha : QL X (e :: es) g)
    (hdb : (x == ("__debug__" : Str)) = false := by decide) (he : starEach (e :: es) X.env = (false, eval e X.env) :: starEach es X.env := by rfl) (hpl : (backTo pos (starEach es X.env)).any (·.1) = false := by rfl) :
    QF X (.Call (.Name x p) (e :: es) [] pos) (fun ρ => (g ρ).bind F) := by
  obtain ⟨f, fd, ps, h1, h2, h3, h4⟩ := G.ex
  refine (pe_call h2 hr hg h1 h3 h4 .nil pass0 ha hdb he hpl).imp fun σ H Q ⟨H0, B, A, ρ, d, S, q, k⟩ => ?_
  obtain ⟨ds, e1, e2⟩ := bind1 q
  refine ⟨H0, B, A, ρ, ds, S, e1, fun vs H1 s1 r1 => ?_⟩
  exact ⟨A, ds, d, S.muts.ext s1, by rw [List.append_nil]; exact r1, e2, fun p ys H2 s2 hp h2 r2 => k p ys H2 (s1.trans s2) (s1.none hp) h2 r2⟩
end
end LY
set_option Elab.async false
set_option linter.all false
set_option maxRecDepth 100000
set_option maxHeartbeats 1000000
/-! LY6: walks, targets, comprehensions -/
namespace LY
open PySem PySem.Spec PyProof.Rows L2
theorem SameX.mono {A A' : List Addr} {H H' : Hp} (s : SameX A H H') (h : ∀ a ∈ A, a ∈ A') : SameX A' H H' := fun a o n e => s a o (fun z => n (h a z)) e
theorem Rp.move {A A' : List Addr} {H H' : Hp} {d : D} {v : V} (r : Rp A H d v) (c : ∀ a ∈ A', a ∈ A ∨ H a = none) (s : SameX A H H') : Rp A' H' d v := by
  have h1 : Rp (A' ++ A) H d v := r.cut fun a ha => by
    rcases List.mem_append.mp ha with z | z
    · exact c a z
    · exact .inl z
  exact (h1.ext (s.mono fun a ha => List.mem_append_right _ ha)).cut fun a ha => .inl (List.mem_append_left _ ha)
/-- J gives the data ds, from Hs on, in every heap of Rel -/
structure WkD (Rel : Hp → Prop) (A : List Addr) (Hs : Hp) (J : It) (ds : List D) : Prop where
  ex : ∃ (n : Nat) (G : Hp → Prop) (Y : Nat → Hp → V → Hp → Prop), Walk J n G Y ∧ n = ds.length ∧ (∀ H, Rel H → G H) ∧
    ∀ (A' : List Addr) (i : Nat) (H1 : Hp) (x : V) (H2 : Hp), (∀ a ∈ A', a ∈ A ∨ Hs a = none) → MutA A' H1 → Rel H1 → i < n → Y i H1 x H2 → Sm H1 H2 ∧ ∃ d, ds[i]? = some d ∧ Rp A' H2 d x
theorem WkD.v {A : List Addr} {Hs : Hp} {J : It} {ds : List D} (h : WkD (SameX A Hs) A Hs J ds) : WkD (Sm Hs) A Hs J ds := by
  obtain ⟨n, G, Y, w, e, g, y⟩ := h.ex
  exact ⟨n, G, Y, w, e, fun H r => g H (Sm.x r), fun A' i H1 x H2 a m r => y A' i H1 x H2 a m (Sm.x r)⟩
def tI (g : Rho → Option (List D)) : TI := fun σ H R => ∃ H0 B A ρ ds, Sim H0 B A H σ ρ ∧ g ρ = some ds ∧ ∀ J H', Sm H H' → WkD (SameX A H') A H' J ds → R J H'
def tIV (g : Rho → Option (List D)) : TI := fun σ H R => ∃ H0 B A ρ ds, Sim H0 B A H σ ρ ∧ g ρ = some ds ∧ ∀ J H', Sm H H' → WkD (Sm H') A H' J ds → R J H'
section
variable {X : Cx}
abbrev QI (X : Cx) (tg e : Expr) (g : Rho → Option (List D)) : Prop := PI X tg e (tI g)
abbrev QIV (X : Cx) (tg e : Expr) (g : Rho → Option (List D)) : Prop := PI X tg e (tIV g)
theorem _root_.L2.PI.imp {tg e : Expr} {t t' : TI} (h : PI X tg e t) (w : ∀ σ H Q, t' σ H Q → t σ H Q) : PI X tg e t' := ⟨fun pins s σ H Q I x => h.run pins s σ H Q I (w _ _ _ x)⟩
theorem _root_.L2.PI.or {tg e : Expr} {t t' : TI} (h : PI X tg e t) (h' : PI X tg e t') : PI X tg e (fun σ H Q => t σ H Q ∨ t' σ H Q) :=
  ⟨fun pins s σ H Q I x => x.elim (h.run pins s σ H Q I) (h'.run pins s σ H Q I)⟩
theorem QI.v {tg e : Expr} {g : Rho → Option (List D)} (h : QI X tg e g) : QIV X tg e g := h.imp fun σ H Q ⟨H0, B, A, ρ, d, S, e, k⟩ => ⟨H0, B, A, ρ, d, S, e, fun J H' s w => k J H' s w.v⟩
/-- what walking a datum gives -/
def D.walk : D → Option (List D)
  | .lst ds => some ds
  | .tup ds => some ds
  | .str z => some (z.cps.toList.map fun c => .str ⟨#[c]⟩)
  | _ => none
theorem wk_at {Rel : Hp → Prop} {A : List Addr} {Hs : Hp} {J : It} {G : Hp → Prop} {ds : List D} {vs : List V} (w : Walk J vs.length G (YAt vs)) (r : RpL A Hs ds vs) (g : ∀ H, Rel H → G H) (rel : ∀ H, Rel H → SameX A Hs H) : WkD Rel A Hs J ds := by
  refine ⟨_, G, _, w, r.length, g, fun A' i H1 x H2 h1 m hr hi y => ?_⟩
  obtain ⟨e, y⟩ := y
  subst e
  obtain ⟨d, e1, e2⟩ := r.getv y
  exact ⟨Sm.refl _, d, e1, e2.move h1 (rel _ hr)⟩
theorem wk_list {K : PySem.W.Frag} {A : List Addr} {Hs : Hp} {a : Addr} {ds : List D} {vs : List V} (r : RpL A Hs ds vs) (h : LstS Hs a vs) (n : a ∉ A) : WkD (SameX A Hs) A Hs (Itl K a) ds :=
  wk_at (w := walk_list (K := K) (a := a) (xs := vs)) r (fun H s => (h.x s n).sq) fun _ s => s
theorem wk_listV {K : PySem.W.Frag} {A : List Addr} {Hs : Hp} {a : Addr} {ds : List D} {vs : List V} (r : RpL A Hs ds vs) (h : LstS Hs a vs) : WkD (Sm Hs) A Hs (Itl K a) ds :=
  wk_at (w := walk_list (K := K) (a := a) (xs := vs)) r (fun H s => (h.x (A := []) s.x (by simp)).sq) fun _ s => Sm.x s
theorem wk_tup {K : PySem.W.Frag} {A : List Addr} {Hs : Hp} {a : Addr} {ds : List D} {vs : List V} (r : RpL A Hs ds vs) (h : TupS Hs a vs) (n : a ∉ A) : WkD (SameX A Hs) A Hs (Itt K a) ds :=
  wk_at (w := walk_tup (K := K) (a := a) (xs := vs)) r (fun H s => (h.x s n).sq) fun _ s => s
theorem wk_fn {Rel : Hp → Prop} {A : List Addr} {Hs : Hp} {J : It} {n : Nat} {f : Nat → V} {ds : List D} (w : Walk J n (fun _ => True) (YFn f)) (hn : n = ds.length) (r : ∀ i, i < n → ∃ d, ds[i]? = some d ∧ ∀ A H, Rp A H d (f i)) : WkD Rel A Hs J ds := by
  refine ⟨_, _, _, w, hn, fun _ _ => True.intro, fun A' i H1 x H2 h1 m hr hi y => ?_⟩
  obtain ⟨e, y⟩ := y
  subst e y
  obtain ⟨d, e1, e2⟩ := r i hi
  exact ⟨Sm.refl _, d, e1, e2 _ _⟩
theorem wk_str {Rel : Hp → Prop} {A : List Addr} {Hs : Hp} {z : Str} : WkD Rel A Hs (Its z) (z.cps.toList.map fun c => .str ⟨#[c]⟩) := by
  refine ⟨_, _, _, walk_str (z := z), by simp, fun _ _ => True.intro, fun A' i H1 x H2 h1 m hr hi y => ?_⟩
  obtain ⟨e, c, hc, y⟩ := y
  subst e y
  exact ⟨Sm.refl _, .str ⟨#[c]⟩, by simp [hc], rfl⟩
def dWalk (g : Den) : Rho → Option (List D) := fun ρ => (g ρ).bind D.walk
theorem qi_seq {tg e : Expr} {g : Den} (h : QE X e g) : QI X tg e (dWalk g) :=
  (((pi_list h).or (pi_tup h)).or (pi_str h)).imp fun σ H Q ⟨H0, B, A, ρ, ds, S, q, k⟩ => by
    obtain ⟨x, e1, e2⟩ := bind1 q
    cases x with
    | lst xs =>
      cases e2
      refine .inl (.inl ⟨H0, B, A, ρ, _, S, e1, fun v H1 s1 r1 => ?_⟩)
      obtain ⟨a, vs, rfl, n, ha, r⟩ := r1
      exact ⟨a, rfl, ⟨vs, ha.sq⟩, k _ H1 s1 (wk_list r ha n)⟩
    | tup xs =>
      cases e2
      refine .inl (.inr ⟨H0, B, A, ρ, _, S, e1, fun v H1 s1 r1 => ?_⟩)
      obtain ⟨a, vs, rfl, n, ha, r⟩ := r1
      exact ⟨a, rfl, ⟨vs, ha.sq⟩, k _ H1 s1 (wk_tup r ha n)⟩
    | str z =>
      cases e2
      refine .inr ⟨H0, B, A, ρ, _, S, e1, fun v H1 s1 r1 => ?_⟩
      exact ⟨z, r1, k _ H1 s1 wk_str⟩
    | _ => cases e2
theorem qiv_seq {tg e : Expr} {g : Den} (h : QV X e g) : QIV X tg e (dWalk g) :=
  (((pi_list h).or (pi_tup h)).or (pi_str h)).imp fun σ H Q ⟨H0, B, A, ρ, ds, S, q, k⟩ => by
    obtain ⟨x, e1, e2⟩ := bind1 q
    cases x with
    | lst xs =>
      cases e2
      refine .inl (.inl ⟨H0, B, A, ρ, _, S, e1, fun v H1 s1 r1 => ?_⟩)
      obtain ⟨a, vs, rfl, ha, r⟩ := r1.lst
      exact ⟨a, rfl, ⟨vs, ha.sq⟩, k _ H1 s1 (wk_listV r ha)⟩
    | tup xs =>
      cases e2
      refine .inl (.inr ⟨H0, B, A, ρ, _, S, e1, fun v H1 s1 r1 => ?_⟩)
      obtain ⟨a, vs, rfl, n, ha, r⟩ := r1.tup
      exact ⟨a, rfl, ⟨vs, ha.sq⟩, k _ H1 s1 (wk_tup r ha n).v⟩
    | str z =>
      cases e2
      refine .inr ⟨H0, B, A, ρ, _, S, e1, fun v H1 s1 r1 => ?_⟩
      exact ⟨z, r1.str, k _ H1 s1 wk_str⟩
    | _ => cases e2
/-- range -/
def rangeD (lo hi : Int) : List D := (List.range (hi - lo).toNat).map fun i => .int (lo + (i : Nat))
theorem wk_range {Rel : Hp → Prop} {A : List Addr} {Hs : Hp} {lo hi : Int} : WkD Rel A Hs (Itr lo (hi - lo).toNat) (rangeD lo hi) :=
  wk_fn (w := walk_range) (by simp [rangeD]) fun i hi => ⟨.int (lo + i), by simp [rangeD, hi], fun _ _ => rfl⟩
def dRange1 (g : Den) : Rho → Option (List D) := fun ρ => (g ρ).bind fun d => match d with
  | .int j => if -(2 ^ 62) ≤ j ∧ j < 2 ^ 62 then some (rangeD 0 j) else none
  | _ => none
def dRange2 (g h : Den) : Rho → Option (List D) := fun ρ => (g ρ).bind fun d => (h ρ).bind fun e => match d, e with
  | .int i, .int j => if -(2 ^ 62) ≤ i ∧ i < 2 ^ 62 ∧ -(2 ^ 62) ≤ j ∧ j < 2 ^ 62 then some (rangeD i j) else none
  | _, _ => none
theorem qi_range1 {tg a : Expr} {g : Den} {p pos : Pos} (hg : Gl X "range") (hm : X.mg "range" = none) (ha : QV X a g) (hs : starEach [a] X.env = [(false, eval a X.env)] := by rfl) : QI X tg (.Call (.Name "range" p) [a] [] pos) (dRange1 g) :=
  (pi_range1 hg hm (qlv_one ha hs) hs).imp fun σ H Q ⟨H0, B, A, ρ, ds, S, q, k⟩ => by
    obtain ⟨x, e1, e2⟩ := bind1 q
    refine ⟨H0, B, A, ρ, [x], S, by simp [dCons, dNil, e1], fun vs H1 s1 r1 => ?_⟩
    obtain ⟨v, rr, rfl, r2, r3⟩ := r1
    rw [show rr = [] from r3]
    split at e2
    · split at e2
      · cases e2
        rename_i j hj
        refine ⟨j, by rw [r2.int], hj.1, hj.2, k _ H1 s1 ?_⟩
        have e : j.toNat = (j - 0).toNat := by simp
        rw [e]
        exact wk_range
      · cases e2
    · cases e2
theorem qi_range2 {tg a b : Expr} {g h : Den} {p pos : Pos} (hg : Gl X "range") (hm : X.mg "range" = none) (ha : QV X a g) (hb : QV X b h) (hs : starEach [a, b] X.env = [(false, eval a X.env), (false, eval b X.env)] := by rfl) (hs2 : starEach [b] X.env = [(false, eval b X.env)] := by rfl) :
    QI X tg (.Call (.Name "range" p) [a, b] [] pos) (dRange2 g h) :=
  (pi_range2 hg hm (qlv_cons ha (qlv_one hb hs2) (by rw [hs, hs2])) hs hs2).imp fun σ H Q ⟨H0, B, A, ρ, ds, S, q, k⟩ => by
    obtain ⟨x, y, e1, e2, e3⟩ := bind2 q
    refine ⟨H0, B, A, ρ, [x, y], S, by simp [dCons, dNil, e1, e2], fun vs H1 s1 r1 => ?_⟩
    obtain ⟨v, rr, rfl, r2, u, rr2, rfl, r4, r5⟩ := r1
    rw [show rr2 = [] from r5]
    split at e3
    · split at e3
      · cases e3
        rename_i i j hj
        exact ⟨i, j, by rw [r2.int, r4.int], hj, k _ H1 s1 wk_range⟩
      · cases e3
    · cases e3
/-- a new pair (known to have no dict) of the i-th of xs and the i-th of ys -/
def YPairS (xs ys : Nat → Option V) : Nat → Hp → V → Hp → Prop := fun i H v H' => ∃ T x y o, v = .ref T ∧ H T = none ∧ o.dict = none ∧ H' = upd H T (.frz o (.tup [x, y])) ∧ xs i = some x ∧ ys i = some y
/-- the list at a as it stands at each turn, each item in a new pair -/
def IteS (K : PySem.W.Frag) (a : Addr) : It :=
  ⟨fun i H => ∃ (xs : List V) (x : V), SqL K H a xs ∧ xs[i]? = some x, fun i H v H' => ∃ T x o, v = .ref T ∧ H T = none ∧ o.dict = none ∧ H' = upd H T (.frz o (.tup [.int (i : Nat), x])) ∧ ∀ xs, SqL K H a xs → xs[i]? = some x, fun i H => ∃ xs : List V, SqL K H a xs ∧ xs.length ≤ i⟩
theorem turn_enumS {P : Program} {w : World} {K : PySem.W.Frag} {elts : List Expr} {kk : Nat} {tpos : Pos} (a e it : Addr) :
    Turn P w K (.Tuple elts kk tpos) (IteS K a) [e, it] e (fun i h => (∃ old, IsEnum h e it ((i : Nat) : Int) old) ∧ h.IsListIter it a i ∧ e ≠ it) where
  mem := by simp
  obj := fun i h st b hb => by
    obtain ⟨⟨old, he⟩, ⟨o, ho, hc, hd⟩, _⟩ := st
    have e' : b = e ∨ b = it := by simpa using hb
    rcases e' with z | z
    · rw [z]; exact ⟨_, he, fun v q => nomatch q⟩
    · rw [z]; exact ⟨o, ho, fun v q => by rw [hd] at q; cases q⟩
  keep := fun i h h' st k => let ⟨⟨old, he⟩, hi, hne⟩ := st; ⟨⟨old, k e (by simp) _ he⟩, hi.at fun o q => k it (by simp) o q, hne⟩
  item := by
    intro X hP hw hK hc i pins s σ H E I hf st hg
    subst hP hw hK
    obtain ⟨⟨old, he⟩, hit, hne⟩ := st
    obtain ⟨xs, x, hq, hx⟩ := hg
    obtain ⟨its, rv, p, hz⟩ := I.list hq
    obtain ⟨u, hu, ru⟩ := rv.get hx
    have hel : e < s.heap.objs.size := Heap.lt_size he
    have hil : it < s.heap.objs.size := by obtain ⟨_, q, _⟩ := hit; exact Heap.lt_size q
    refine wpAny_pyNext_enum_item he hit p.isList (x := u) (by simpa using hu) hne fun h' ho hit' hT hsz hk => ?_
    refine ⟨_, rfl, wpAny_letOwnedTupleGo_enum (s := { s with heap := h', toks := s.toks + 1 }) ho fun h'' he' sb => ?_⟩
    have hT2 : h''.get? s.heap.objs.size = some { cls := .type "tuple", data := .seq #[.int i s.toks, u] } := (sb.2 _ (Nat.ne_of_gt hel)).trans hT
    have new : ObjOk X.prog X.w (upd H s.heap.objs.size (.frz { cls := .type "tuple", data := .seq #[.int i s.toks, u] } (.tup [.int (i : Nat), x]))) h'' s.heap.objs.size (.frz { cls := .type "tuple", data := .seq #[.int i s.toks, u] } (.tup [.int (i : Nat), x])) :=
      ⟨hT2, by show 2 ≤ sizeLine; decide, [.int i s.toks, u], .cons ⟨_, rfl⟩ (.cons ru .nil), ⟨_, hT2, rfl, _, rfl⟩⟩
    have I1 : Inv X pins σ (upd H s.heap.objs.size (.frz { cls := .type "tuple", data := .seq #[.int i s.toks, u] } (.tup [.int (i : Nat), x]))) { s with heap := h'', toks := s.toks + 1 } :=
      I.turnedNew (ch := [e, it]) (fun b ob hb q => (sb.2 b (fun z => hb (by simp [z]))).trans (hk b ob (fun z => hb (by simp [z])) (fun z => hb (by simp [z])) q)) hf (Nat.le_refl _) new
    refine ⟨.ref s.heap.objs.size, _, I1, rfl, ⟨_, x, _, rfl, I.hok.fresh (Nat.le_refl _), rfl, rfl, fun ys hy => by rw [I.list_inj hy hq]; exact hx⟩, ⟨⟨u, ?_⟩, hit'.at fun o q => (sb.2 it (Ne.symm hne)).trans q, hne⟩, fun b hb => ?_⟩
    · have e1 : ((i + 1 : Nat) : Int) = (i : Int) + 1 := by omega
      rw [e1]; exact he'
    · have hb' : b < s.heap.objs.size := by
        have e' : b = e ∨ b = it := by simpa using hb
        rcases e' with z | z
        · rw [z]; exact hel
        · rw [z]; exact hil
      rw [upd_ne (Nat.ne_of_lt hb')]
      exact (hf b hb).1
  done := by
    intro X hP hw hK hc i pins s σ H E I hf st hg
    subst hP hw hK
    obtain ⟨⟨old, he⟩, hit, hne⟩ := st
    obtain ⟨xs, hq, hx⟩ := hg
    obtain ⟨its, rv, p, hz⟩ := I.list hq
    obtain ⟨f0, f1, f2, f3, f4, f5⟩ := hf it (by simp)
    have hl := rv.length
    exact wpAny_pyNext_enum_end (I.ok.hd hc) he hit p.isList (by simp; omega) fun h' eb => ⟨rfl, I.turned (t' := s.toks) (fun b o hb q => eb b o hb q) f0 f1 f3 f4 f5⟩
  self := fun A i s Q E st h => let ⟨⟨_, he⟩, _⟩ := st; wpAny_pyIter_enum he h
def iEnumS (K : PySem.W.Frag) (ta : TA) : TI := fun σ H R => ta σ H fun vs H1 => ∃ a xs, vs = [.ref a] ∧ SqL K H1 a xs ∧ R (IteS K a) H1
theorem pi_enumS {X : Cx} {e : Expr} {ta : TA} {p pos tpos : Pos} {elts : List Expr} {kk : Nat} (hg : Gl X "enumerate") (hm : X.mg "enumerate" = none) (ha : PA X [e] ta) (hs : starEach [e] X.env = [(false, eval e X.env)] := by rfl) :
    PI X (.Tuple elts kk tpos) (.Call (.Name "enumerate" p) [e] [] pos) (iEnumS X.K ta) := by
  refine ⟨fun pins s σ H R I h => ?_⟩
  refine Call_ (ld_blt I hg hm boot_enumerate (PyProof.Rows.callWith_type1 (thn (ha.run pos pins s σ H _ I h) fun us s1 ⟨vs, H1, I1, r1, q1⟩ => ?_) hs rfl))
  obtain ⟨a, xs, ex, hq, q⟩ := q1
  subst ex
  cases r1 with
  | cons r rr =>
    cases rr
    cases r
    obtain ⟨its, rv, p', hz⟩ := I1.list hq
    refine call_enumerate_list p'.isList fun h' he hit hsz hk => wpAny_pyIter_enum he ?_
    have I2 : Inv X pins σ H1 { s1 with heap := h' } := I1.kept (t' := s1.toks) hk
    refine ⟨s1.heap.objs.size + 1, [s1.heap.objs.size + 1, s1.heap.objs.size], _, _, H1, rfl, I2, turn_enumS a (s1.heap.objs.size + 1) s1.heap.objs.size, ⟨⟨.none, he⟩, hit, Nat.succ_ne_self _⟩, fun b hb => ?_, q⟩
    have e' : b = s1.heap.objs.size + 1 ∨ b = s1.heap.objs.size := by simpa using hb
    have hle : s1.heap.objs.size ≤ b := by
      rcases e' with z | z
      · rw [z]; exact Nat.le_add_right _ _
      · rw [z]; exact Nat.le_refl _
    exact I1.fpOk hle (I1.hok.fresh hle)
theorem walk_enumS {K : PySem.W.Frag} {a : Addr} {xs : List V} : Walk (IteS K a) xs.length (fun H => SqL K H a xs) (YPairS (fun i => some (.int (i : Nat))) (fun i => xs[i]?)) := by
  refine ⟨fun i _ hi q => ⟨xs, xs[i], q, by simp [hi]⟩, fun _ q => ⟨xs, q, Nat.le_refl _⟩, fun i H v H' _ q y => ?_⟩
  obtain ⟨T, x, o, h1, h2, h0, h3, h4⟩ := y
  exact ⟨T, .int (i : Nat), x, o, h1, h2, h0, h3, rfl, h4 xs q⟩
/-- pairs -/
theorem wk_pair {Rel : Hp → Prop} {A : List Addr} {Hs : Hp} {J : It} {n : Nat} {G : Hp → Prop} {fx fy : Nat → Option V} {xs ys : List D} (w : Walk J n G (YPairS fx fy)) (g : ∀ H, Rel H → G H) (rel : ∀ H, Rel H → SameX A Hs H)
    (hx : ∀ i x, i < n → fx i = some x → ∃ d, xs[i]? = some d ∧ Rp A Hs d x) (hy : ∀ i x, i < n → fy i = some x → ∃ d, ys[i]? = some d ∧ Rp A Hs d x) (hn : n = (List.zip xs ys).length) : WkD Rel A Hs J ((List.zip xs ys).map fun p => .tup [p.1, p.2]) := by
  refine ⟨_, G, _, w, by simpa using hn, g, fun A' i H1 x H2 h1 m hr hi y => ?_⟩
  obtain ⟨T, x, y, o, rfl, hT, ho, rfl, ex, ey⟩ := y
  obtain ⟨d, d1, d2⟩ := hx i x hi ex
  obtain ⟨e, e1, e2⟩ := hy i y hi ey
  refine ⟨Sm.new hT, .tup [d, e], ?_, ?_⟩
  · have e3 := (List.getElem?_zip_eq_some (z := (d, e))).mpr ⟨d1, e1⟩
    rw [List.getElem?_map, e3]
    rfl
  · exact Rp.newT m ⟨x, [y], rfl, d2.move h1 (rel _ hr), y, [], rfl, e2.move h1 (rel _ hr), rfl⟩ hT ho
def enumD (ds : List D) : List D := (List.zip (rangeD 0 ds.length) ds).map fun p => .tup [p.1, p.2]
theorem wk_enum {K : PySem.W.Frag} {Rel : Hp → Prop} {A : List Addr} {Hs : Hp} {a : Addr} {ds : List D} {vs : List V} (r : RpL A Hs ds vs) (g : ∀ H, Rel H → SqL K H a vs) (rel : ∀ H, Rel H → SameX A Hs H) : WkD Rel A Hs (IteS K a) (enumD ds) := by
  have hl := r.length
  refine wk_pair (w := walk_enumS (K := K) (a := a) (xs := vs)) g rel (fun i x hi e => ?_) (fun i x hi e => ?_) ?_
  · cases e
    have h2 : i < ds.length := hl ▸ hi
    exact ⟨.int (0 + (i : Nat)), by simp [rangeD, h2], by simp [Rp]⟩
  · exact r.getv e
  · simp [rangeD, hl]
def dEnum (g : Den) : Rho → Option (List D) := fun ρ => (g ρ).bind fun d => d.items.map enumD
def zipD (xs ys : List D) : List D := (List.zip xs ys).map fun p => .tup [p.1, p.2]
def dZip (g h : Den) : Rho → Option (List D) := fun ρ => (g ρ).bind fun x => (h ρ).bind fun y => x.items.bind fun xs => y.items.map fun ys => zipD xs ys
end
end LY
namespace LY
open PySem PySem.Spec PyProof.Rows L2
section
variable {X : Cx}
theorem D.items_lst {d : D} {ds : List D} (h : d.items = some ds) : d = .lst ds ∨ d = .tup ds := by
  cases d <;> first | (cases h; simp) | cases h
/-- enumerate over a list -/
theorem qiv_enumL {e : Expr} {g : Den} {p pos tpos : Pos} {elts : List Expr} {kk : Nat} (hg : Gl X "enumerate") (hm : X.mg "enumerate" = none) (h : QV X e g) (hs : starEach [e] X.env = [(false, eval e X.env)] := by rfl) :
    QIV X (.Tuple elts kk tpos) (.Call (.Name "enumerate" p) [e] [] pos) (fun ρ => (g ρ).bind fun d => match d with | .lst ds => some (enumD ds) | _ => none) :=
  (pi_enumS hg hm (qlv_one h hs) hs).imp fun σ H Q ⟨H0, B, A, ρ, ds, S, q, k⟩ => by
    obtain ⟨x, e1, e2⟩ := bind1 q
    split at e2
    · cases e2
      refine ⟨H0, B, A, ρ, [_], S, by simp [dCons, dNil, e1]; rfl, fun vs H1 s1 r1 => ?_⟩
      obtain ⟨v, rr, rfl, r2, r3⟩ := r1
      rw [show rr = [] from r3]
      obtain ⟨a, vs, rfl, ha, r⟩ := r2.lst
      exact ⟨a, vs, rfl, ha.sq, k _ H1 s1 (wk_enum r (fun H s => (ha.x (A := []) s.x (by simp)).sq) fun _ s => Sm.x s)⟩
    · cases e2
theorem qi_enumL {e : Expr} {g : Den} {p pos tpos : Pos} {elts : List Expr} {kk : Nat} (hg : Gl X "enumerate") (hm : X.mg "enumerate" = none) (h : QE X e g) (hs : starEach [e] X.env = [(false, eval e X.env)] := by rfl) :
    QI X (.Tuple elts kk tpos) (.Call (.Name "enumerate" p) [e] [] pos) (fun ρ => (g ρ).bind fun d => match d with | .lst ds => some (enumD ds) | _ => none) :=
  (pi_enumS hg hm (ql_cons h ql_nil (by rw [hs]; rfl)) hs).imp fun σ H Q ⟨H0, B, A, ρ, ds, S, q, k⟩ => by
    obtain ⟨x, e1, e2⟩ := bind1 q
    split at e2
    · cases e2
      refine ⟨H0, B, A, ρ, [_], S, by simp [dCons, dNil, e1]; rfl, fun vs H1 s1 r1 => ?_⟩
      obtain ⟨v, rr, rfl, r2, r3⟩ := r1
      rw [show rr = [] from r3]
      obtain ⟨a, vs, rfl, na, ha, r⟩ := r2
      exact ⟨a, vs, rfl, ha.sq, k _ H1 s1 (wk_enum r (fun H s => (ha.x s na).sq) fun _ s => s)⟩
    · cases e2

/-! ### targets -/
/-- the target takes the datum d: what the slots hold then; is: the slots that it stores -/
def tG (is : List Nat) (b : D → Rho → Option Rho) : TG := fun v σ H Q => ∃ H0 B A ρ d ρ', Sim H0 B A H σ ρ ∧ Rp A H d v ∧ b d ρ = some ρ' ∧ ∀ σ', σ'.length = σ.length → (∀ j, j ∉ is → σ'[j]? = σ[j]?) → Sim H0 B A H σ' ρ' → Q σ' H
abbrev QG (X : Cx) (tg : Expr) (is : List Nat) (b : D → Rho → Option Rho) : Prop := PG X tg (tG is b)
theorem _root_.L2.PG.imp {tg : Expr} {t t' : TG} (h : PG X tg t) (w : ∀ v σ H Q, t' v σ H Q → t v σ H Q) : PG X tg t' := ⟨fun pins s σ H v u Q I r x => h.run pins s σ H v u Q I r (w _ _ _ _ x)⟩
theorem _root_.L2.PGs.imp {tg : List Expr} {t t' : TGs} (h : PGs X tg t) (w : ∀ v σ H Q, t' v σ H Q → t v σ H Q) : PGs X tg t' := ⟨fun pins s σ H v u Q I r x => h.run pins s σ H v u Q I r (w _ _ _ _ x)⟩
/-- a datum stored into a slot -/
theorem Sim.set {H0 : Hp} {B A : List Addr} {H : Hp} {σ : L2.St} {ρ : Rho} (S : Sim H0 B A H σ ρ) {i : Nat} {d : D} {v : V} (r : Rp A H d v) : Sim H0 B A H (σ.set i (some v)) (ρ.set i (some (.r d))) where
  len := by rw [List.length_set, List.length_set]; exact S.len
  same := S.same
  muts := S.muts
  sub := S.sub
  newA := S.newA
  sl := fun j x e => by
    by_cases h : i = j
    · subst h
      have hi : i < ρ.length := by
        by_cases hi : i < ρ.length
        · exact hi
        · rw [List.getElem?_eq_none (by rw [List.length_set]; omega)] at e; cases e
      rw [List.getElem?_set_self hi] at e
      cases e
      exact ⟨v, List.getElem?_set_self (by rw [← S.len]; exact hi), r⟩
    · rw [List.getElem?_set_ne h] at e
      have := S.sl j x e
      cases x with
      | r d => obtain ⟨w, e1, e2⟩ := this; exact ⟨w, by rw [List.getElem?_set_ne h]; exact e1, e2⟩
      | o d => obtain ⟨a, e1, e2⟩ := this; exact ⟨a, by rw [List.getElem?_set_ne h]; exact e1, e2⟩
  own := fun j e he => by
    have h : i ≠ j := fun z => by
      subst z
      by_cases hi : i < ρ.length
      · rw [List.getElem?_set_self hi] at he; cases he
      · rw [List.getElem?_eq_none (by rw [List.length_set]; omega)] at he; cases he
    rw [List.getElem?_set_ne h] at he
    obtain ⟨a, e1, e2⟩ := S.own j e he
    exact ⟨a, by rw [List.getElem?_set_ne h]; exact e1, e2⟩
  dis := fun j l d1 d2 a h1 h2 h3 h4 => by
    have hj : i ≠ j := fun z => by
      subst z
      by_cases hi : i < ρ.length
      · rw [List.getElem?_set_self hi] at h1; cases h1
      · rw [List.getElem?_eq_none (by rw [List.length_set]; omega)] at h1; cases h1
    have hl : i ≠ l := fun z => by
      subst z
      by_cases hi : i < ρ.length
      · rw [List.getElem?_set_self hi] at h2; cases h2
      · rw [List.getElem?_eq_none (by rw [List.length_set]; omega)] at h2; cases h2
    rw [List.getElem?_set_ne hj] at h1 h3
    rw [List.getElem?_set_ne hl] at h2 h4
    exact S.dis j l d1 d2 a h1 h2 h3 h4
def bName (i : Nat) : D → Rho → Option Rho := fun d ρ => some (ρ.set i (some (.r d)))
theorem qg_name {i : Nat} {x : Str} {pos : Pos} (hN : X.N.Nodup) (hi : X.N[i]? = some x) (hx : Loc X.env.scope x) (hf : X.fn x = true ∨ X.env.scope.names.lookup x = some .local := by first | exact .inl rfl | exact .inr rfl | assumption) : QG X (.Name x pos) [i] (bName i) :=
  (pg_name hN hi hx hf).imp fun v σ H Q ⟨H0, B, A, ρ, d, ρ', S, r, e, k⟩ => by
    cases e
    exact k _ (List.length_set) (fun j hj => List.getElem?_set_ne fun z => hj (by simp [z])) (S.set r)
def tGs (is : List Nat) (b : List D → Rho → Option Rho) : TGs := fun vs σ H Q => ∃ H0 B A ρ ds ρ', Sim H0 B A H σ ρ ∧ RpL A H ds vs ∧ b ds ρ = some ρ' ∧ ∀ σ', σ'.length = σ.length → (∀ j, j ∉ is → σ'[j]? = σ[j]?) → Sim H0 B A H σ' ρ' → Q σ' H
abbrev QGs (X : Cx) (tg : List Expr) (is : List Nat) (b : List D → Rho → Option Rho) : Prop := PGs X tg (tGs is b)
def bNil : List D → Rho → Option Rho := fun ds ρ => match ds with
  | [] => some ρ
  | _ => none
def bCons (b : D → Rho → Option Rho) (c : List D → Rho → Option Rho) : List D → Rho → Option Rho := fun ds ρ => match ds with
  | d :: r => (b d ρ).bind fun ρ1 => c r ρ1
  | _ => none
theorem qgs_nil : QGs X [] [] bNil := pgs_nil.imp fun vs σ H Q ⟨H0, B, A, ρ, ds, ρ', S, r, e, k⟩ => by
  unfold bNil at e
  split at e
  · cases e
    exact ⟨r, k σ rfl (fun _ _ => rfl) S⟩
  · cases e
theorem qgs_cons {e : Expr} {es : List Expr} {is js : List Nat} {b : D → Rho → Option Rho} {c : List D → Rho → Option Rho} (h1 : QG X e is b) (h2 : QGs X es js c)
    (hs : (assignEach (e :: es) X.env).map (·.2) = assign e X.env :: (assignEach es X.env).map (·.2) := by rfl) : QGs X (e :: es) (is ++ js) (bCons b c) :=
  (pgs_cons h1 h2 hs).imp fun vs σ H Q ⟨H0, B, A, ρ, ds, ρ', S, r, e, k⟩ => by
    unfold bCons at e
    split at e
    · obtain ⟨v, rr, rfl, r1, r2⟩ := r
      obtain ⟨ρ1, e1, e2⟩ := bind1 e
      refine ⟨v, rr, rfl, H0, B, A, ρ, _, ρ1, S, r1, e1, fun σ1 l1 f1 S1 => ?_⟩
      exact ⟨H0, B, A, ρ1, _, ρ', S1, r2, e2, fun σ2 l2 f2 S2 => k σ2 (l2.trans l1) (fun j hj => (f2 j fun z => hj (by simp [z])).trans (f1 j fun z => hj (by simp [z]))) S2⟩
    · cases e
def bTup (n : Nat) (c : List D → Rho → Option Rho) : D → Rho → Option Rho := fun d ρ => match d with
  | .tup ds => if ds.length = n then c ds ρ else none
  | _ => none
theorem qg_tup {es : List Expr} {k n : Nat} {pos : Pos} {is : List Nat} {c : List D → Rho → Option Rho} (hc : X.calm = true) (h : QGs X es is c)
    (hn : (assignEach es X.env).length = n := by rfl) (hst : (assignEach es X.env).findIdx? (·.1) = none := by rfl) : QG X (.Tuple es k pos) is (bTup n c) :=
  (pg_tup hc h hn hst).imp fun v σ H Q ⟨H0, B, A, ρ, d, ρ', S, r, e, k⟩ => by
    unfold bTup at e
    split at e
    · split at e
      · rename_i ds hl
        obtain ⟨a, vs, rfl, na, ha, r1⟩ := r
        exact ⟨a, vs, rfl, ha.sq, by rw [r1.length, hl], H0, B, A, ρ, ds, ρ', S, r1, e, k⟩
      · cases e
    · cases e

/-! ### list comprehensions -/
def wipeR (ρ : Rho) : List Nat → Rho
  | [] => ρ
  | v :: vs => (wipeR ρ vs).set v none
theorem wipeR_length (ρ : Rho) : ∀ vs, (wipeR ρ vs).length = ρ.length
  | [] => rfl
  | v :: vs => by rw [wipeR, List.length_set, wipeR_length ρ vs]
theorem wipeR_some {ρ : Rho} {i : Nat} {x : SV} : ∀ {vs : List Nat}, (wipeR ρ vs)[i]? = some (some x) → ρ[i]? = some (some x) ∧ i ∉ vs
  | [], h => ⟨h, by simp⟩
  | v :: vs, h => by
    rw [wipeR] at h
    by_cases e : v = i
    · subst e
      by_cases hi : v < (wipeR ρ vs).length
      · rw [List.getElem?_set_self hi] at h; cases h
      · rw [List.getElem?_eq_none (by rw [List.length_set]; omega)] at h; cases h
    · rw [List.getElem?_set_ne e] at h
      obtain ⟨h1, h2⟩ := wipeR_some h
      exact ⟨h1, by simp only [List.mem_cons, not_or]; exact ⟨fun z => e z.symm, h2⟩⟩
theorem wipe_out' {σ : L2.St} {i : Nat} : ∀ {vs : List Nat}, i ∉ vs → (wipe σ vs)[i]? = σ[i]?
  | [], _ => rfl
  | v :: vs, h => by
    rw [wipe, List.getElem?_set_ne fun z => h (by simp [z])]
    exact wipe_out' fun z => h (by simp [z])
theorem wipe_in {σ : L2.St} {j : Nat} : ∀ {vs : List Nat}, j ∈ vs → (L2.wipe σ vs)[j]? = if j < σ.length then some none else none
  | [], h => by cases h
  | v :: vs, h => by
    rw [L2.wipe]
    by_cases e : v = j
    · subst e
      by_cases hl : v < σ.length
      · rw [List.getElem?_set_self (by rw [wipe_length]; exact hl), if_pos hl]
      · rw [List.getElem?_eq_none (by rw [List.length_set, wipe_length]; omega), if_neg hl]
    · rw [List.getElem?_set_ne e]
      exact wipe_in (by
        rcases List.mem_cons.mp h with z | z
        · exact absurd z.symm e
        · exact z)
theorem Sim.wipe {H0 : Hp} {B A : List Addr} {H : Hp} {σ : L2.St} {ρ : Rho} (S : Sim H0 B A H σ ρ) (vs : List Nat) : Sim H0 B A H (wipe σ vs) (wipeR ρ vs) where
  len := by rw [wipeR_length, wipe_length]; exact S.len
  same := S.same
  muts := S.muts
  sub := S.sub
  newA := S.newA
  sl := fun i x e => by
    obtain ⟨e1, e2⟩ := wipeR_some e
    have := S.sl i x e1
    cases x with
    | r d => obtain ⟨w, h1, h2⟩ := this; exact ⟨w, by rw [wipe_out' e2]; exact h1, h2⟩
    | o d => obtain ⟨a, h1, h2⟩ := this; exact ⟨a, by rw [wipe_out' e2]; exact h1, h2⟩
  own := fun i d e => by
    obtain ⟨e1, e2⟩ := wipeR_some e
    obtain ⟨a, h1, h2⟩ := S.own i d e1
    exact ⟨a, by rw [wipe_out' e2]; exact h1, h2⟩
  dis := fun i j d e a h1 h2 h3 h4 => by
    obtain ⟨e1, e2⟩ := wipeR_some h1
    obtain ⟨e3, e4⟩ := wipeR_some h2
    rw [wipe_out' e2] at h3
    rw [wipe_out' e4] at h4
    exact S.dis i j d e a e1 e3 h3 h4
/-- one more address that is not leant on -/
theorem SlOk.cut {A A' : List Addr} {H : Hp} {σ : L2.St} {i : Nat} {x : SV} (s : ∀ a ∈ A', a ∈ A ∨ H a = none) (t : ∀ a ∈ A, a ∈ A') (h : SlOk A H σ i x) : SlOk A' H σ i x := by
  cases x with
  | r d => obtain ⟨v, e, q⟩ := h; exact ⟨v, e, q.cut s⟩
  | o d =>
    obtain ⟨a, e, m, q⟩ := h
    refine ⟨a, e, t a m, ?_⟩
    cases d with
    | lst ds => obtain ⟨vs, h1, h2⟩ := q; exact ⟨vs, h1, h2.cut s⟩
    | dic ds => obtain ⟨vs, h1, h2⟩ := q; exact ⟨vs, h1, h2.cut s⟩
    | _ => exact q.elim
theorem Sim.addNew {H0 : Hp} {B A : List Addr} {H : Hp} {σ : L2.St} {ρ : Rho} (S : Sim H0 B A H σ ρ) {p : Addr} {o : HO} (hp : H p = none) (ho : isMut o = true) : Sim H0 B (p :: A) (upd H p o) σ ρ where
  len := S.len
  same := S.same.trans (Sm.new hp)
  muts := fun a ha => by
    rcases List.mem_cons.mp ha with rfl | ha
    · exact ⟨o, upd_same, ho⟩
    · exact S.muts.ext (Sm.new hp) a ha
  sub := fun a ha => List.mem_cons_of_mem _ (S.sub a ha)
  newA := fun a ha => by
    rcases List.mem_cons.mp ha with rfl | ha
    · exact .inr (S.same.none hp)
    · exact S.newA a ha
  sl := fun i x e => ((S.sl i x e).cut (A' := p :: A) (fun a ha => by
    rcases List.mem_cons.mp ha with rfl | ha
    · exact .inr hp
    · exact .inl ha) (fun a ha => List.mem_cons_of_mem _ ha)).ext (Sm.new hp)
  own := S.own
  dis := S.dis
/-- a new item at the list p that no slot and no datum leans on -/
theorem Sim.grow {H0 : Hp} {B A : List Addr} {H : Hp} {σ : L2.St} {ρ : Rho} (S : Sim H0 B (p :: A) H σ ρ) {xs ys : List V} (hp : H p = some (.lst xs)) (h0 : H0 p = none) (no : ∀ (i : Nat) (d : D), ρ[i]? = some (some (SV.o d)) → σ[i]? ≠ some (some (V.ref p))) : Sim H0 B (p :: A) (upd H p (.lst ys)) σ ρ := by
  have sx : SameX (p :: A) H (upd H p (.lst ys)) := fun a o n e => by
    rw [upd_ne fun z => n (by simp [z])]
    exact e
  refine ⟨S.len, fun a o e => ?_, fun a ha => ?_, S.sub, S.newA, fun i x e => ?_, S.own, S.dis⟩
  · rw [upd_ne (ne_of_none e h0)]
    exact S.same a o e
  · by_cases q : a = p
    · subst q; exact ⟨_, upd_same, rfl⟩
    · rw [upd_ne q]; exact S.muts a ha
  · have := S.sl i x e
    cases x with
    | r d => obtain ⟨v, e1, q⟩ := this; exact ⟨v, e1, q.ext sx⟩
    | o d =>
      obtain ⟨a, e1, m, q⟩ := this
      have na : a ≠ p := fun z => no i d e (by rw [← z]; exact e1)
      refine ⟨a, e1, m, ?_⟩
      cases d with
      | lst ds => obtain ⟨vs, h1, h2⟩ := q; exact ⟨vs, by rw [upd_ne na]; exact h1, h2.ext sx⟩
      | dic ds => obtain ⟨vs, h1, h2⟩ := q; exact ⟨vs, by rw [upd_ne na]; exact h1, h2.ext sx⟩
      | _ => exact q.elim
/-- what a comprehension makes of the items -/
def compD (b : D → Rho → Option Rho) (t : Rho → Option Bool) (f : Den) (ρ : Rho) : List D → Option (List D)
  | [] => some []
  | x :: xs => (b x ρ).bind fun ρ1 => (t ρ1).bind fun c => if c = true then (f ρ1).bind fun y => (compD b t f ρ xs).bind fun ys => some (y :: ys) else compD b t f ρ xs
def dComp (vs : List Nat) (g : Rho → Option (List D)) (b : D → Rho → Option Rho) (t : Rho → Option Bool) (f : Den) : Rho → Option (List D) := fun ρ => (g ρ).bind fun xs => if xs.length ≤ 100000 then compD b t f (wipeR ρ vs) xs else none
def dYes : Rho → Option Bool := fun _ => some true
theorem lc_den {is vs : List Nat} {gi : Rho → Option (List D)} {b : D → Rho → Option Rho} {t : Rho → Option Bool} {f : Den} {σ : L2.St} {H : Hp} {Q : VK} (his : ∀ i ∈ is, i ∈ vs) (w : tF (dComp vs gi b t f) σ H Q) : tLc (tIV gi) (tG is b) (tBo t) (tE f) vs σ H Q := by
  obtain ⟨H0, B, A, ρ, out, S, q, k⟩ := w
  obtain ⟨xs, e1, e2⟩ := bind1 q
  split at e2
  · rename_i hlen
    refine ⟨H0, B, A, ρ, xs, S, e1, fun J H1 s1 W D hD => ?_⟩
    obtain ⟨n, G, Y, wk, en, hG, hY⟩ := W.ex
    have S1 := S.ext s1
    have SD : Sim H0 B (D :: A) (upd H1 D (.lst [])) (L2.wipe σ vs) (wipeR ρ vs) := (S1.wipe vs).addNew hD rfl
    have dA : D ∉ A := S1.muts.new hD
    have hD0 : H0 D = none := S1.same.none hD
    have noD : ∀ (i : Nat) (d : LY.D), (wipeR ρ vs)[i]? = some (some (SV.o d)) → (L2.wipe σ vs)[i]? ≠ some (some (V.ref D)) := fun i d e z => by
      obtain ⟨a, h1, h2, _⟩ := (S1.wipe vs).sl i _ e
      rw [z] at h1; cases h1
      exact dA h2
    refine lc_it wk (fun i Hc => Sm H1 Hc ∧ ∃ acc ds rest, Hc D = some (.lst acc) ∧ RpL (D :: A) Hc ds acc ∧ acc.length ≤ i ∧ compD b t f (wipeR ρ vs) (xs.drop i) = some rest ∧ out = ds ++ rest ∧ Sim H0 B (D :: A) Hc (L2.wipe σ vs) (wipeR ρ vs)) ?_ ?_ ?_ ?_
    · exact ⟨Sm.new hD, [], [], out, upd_same, rfl, Nat.le_refl _, by rw [List.drop_zero]; exact e2, rfl, SD⟩
    · rintro i Hc _ ⟨sm, _⟩
      exact hG _ sm
    · rintro i x Hc H2 hi ⟨sm, acc, ds, rest, h1, h2, h3, h4, h5, SC⟩ y
      have newA : ∀ a ∈ D :: A, a ∈ A ∨ H1 a = none := fun a ha => by
        rcases List.mem_cons.mp ha with rfl | ha
        · exact .inr hD
        · exact .inl ha
      obtain ⟨s2, d, d1, d2⟩ := hY (D :: A) i Hc x H2 newA SC.muts sm hi y
      have hx : xs.drop i = d :: xs.drop (i + 1) := by
        obtain ⟨hlt, e⟩ := List.getElem?_eq_some_iff.mp d1
        rw [List.drop_eq_getElem_cons hlt, e]
      rw [hx, compD] at h4
      obtain ⟨ρ1, g1, h4⟩ := bind1 h4
      obtain ⟨c, g2, h4⟩ := bind1 h4
      refine ⟨H0, B, D :: A, wipeR ρ vs, d, ρ1, SC.ext s2, d2, g1, fun σ1 l1 f1 S1' => ?_⟩
      refine ⟨?_, H0, B, D :: A, ρ1, c, S1', g2, fun H3 s3 => ?_⟩
      · refine List.ext_getElem? fun j => ?_
        by_cases hj : j ∈ vs
        · rw [wipe_in hj, wipe_in hj, l1, wipe_length]
        · rw [wipe_out' hj, f1 j fun z => hj (his j z)]
      · by_cases hc : c = true
        · rw [if_pos hc] at h4 ⊢
          obtain ⟨yd, g3, h4⟩ := bind1 h4
          obtain ⟨ys, g4, h4⟩ := bind1 h4
          cases h4
          refine ⟨H0, B, D :: A, ρ1, yd, S1'.ext s3, g3, fun yv H4 s4 r4 => ?_⟩
          have s24 := (s2.trans s3).trans s4
          refine ⟨acc, s24 _ _ h1, by rw [sizeLine_eq]; omega, ?_, acc ++ [yv], ds ++ [yd], ys, upd_same, ?_, by rw [List.length_append, List.length_singleton]; omega, g4, by rw [h5, List.append_assoc]; rfl, ?_⟩
          · intro a o e
            rw [upd_ne (ne_of_none e hD)]
            exact s24 _ _ (sm _ _ e)
          · have sx : SameX (D :: A) H4 (upd H4 D (.lst (acc ++ [yv]))) := fun a o n e => by
              rw [upd_ne fun z => n (by simp [z])]
              exact e
            exact ((h2.ext s24.x).append (.one r4)).ext sx
          · exact (SC.ext s24).grow (s24 _ _ h1) hD0 noD
        · rw [if_neg hc] at h4 ⊢
          have s23 := s2.trans s3
          exact ⟨sm.trans s23, acc, ds, rest, s23 _ _ h1, h2.ext s23.x, by omega, h4, h5, SC.ext s23⟩
    · rintro Hc ⟨sm, acc, ds, rest, h1, h2, h3, h4, h5, SC⟩
      have : xs.drop n = [] := by rw [en]; exact List.drop_length
      rw [this] at h4
      cases h4
      rw [List.append_nil] at h5
      subst h5
      exact k D acc Hc (s1.trans sm) (s1.none hD) h1 h2
  · cases e2
abbrev QTs (X : Cx) (ifs : List Expr) (g : Rho → Option Bool) : Prop := PTs X ifs (tBo g)
theorem _root_.L2.PTs.imp {ifs : List Expr} {t t' : TT} (h : PTs X ifs t) (w : ∀ σ H Q, t' σ H Q → t σ H Q) : PTs X ifs t' := ⟨fun pins s σ H Q I x => h.run pins s σ H Q I (w _ _ _ x)⟩
theorem qts_nil : QTs X [] dYes := pts_nil.imp fun σ H Q ⟨H0, B, A, ρ, b, S, q, k⟩ => by
  cases q
  exact k H (Sm.refl H)
theorem qts_one {c : Expr} {g : Rho → Option Bool} (h : QT X c g) : QTs X [c] g := pts_one h
theorem f_lc {elt tg iter : Expr} {ifs : List Expr} {scope : Scope} {own : List (Str × Nat)} {pos : Pos} {is : List Nat} {gi : Rho → Option (List D)} {b : D → Rho → Option Rho} {t : Rho → Option Bool} {f : Den} (hc : X.calm = true) (hN : X.N.Nodup)
    (ok : BlkOk X.N X.env.scope scope own) (hi : QIV X tg iter gi)
    (hg : ∀ (s : Shared) (H : Hp) (C : Addr) (cl : List (Str × Addr)) (fp : List Addr), QG (X.blk s H scope (compEnvC scope cl C X.env) fp) tg is b) (ht : ∀ (s : Shared) (H : Hp) (C : Addr) (cl : List (Str × Addr)) (fp : List Addr), QTs (X.blk s H scope (compEnvC scope cl C X.env) fp) ifs t)
    (he : ∀ (s : Shared) (H : Hp) (C : Addr) (cl : List (Str × Addr)) (fp : List Addr), QE (X.blk s H scope (compEnvC scope cl C X.env) fp) elt f) (his : ∀ i ∈ is, i ∈ own.map (·.2)) (hs : ∀ x, foldedSetIterable iter X.env x = pure x := by intro _; rfl) :
    QF X (.ListComp elt [⟨tg, iter, ifs, 0⟩] scope pos) (dComp (own.map (·.2)) gi b t f) :=
  (pe_lc hc hN hi ok hg ht he hs).imp fun σ H Q w => lc_den his w
end
end LY
set_option Elab.async false
set_option linter.all false
set_option maxRecDepth 100000
set_option maxHeartbeats 1000000
/-! LY7: statements -/
namespace LY
open PySem PySem.Spec PyProof.Rows L2
def Step (A : List Addr) (H : Hp) (A' : List Addr) (H' : Hp) : Prop := SameX A H H' ∧ ∀ a ∈ A', a ∈ A ∨ H a = none
theorem Step.refl (A : List Addr) (H : Hp) : Step A H A H := ⟨SameX.refl A H, fun a h => .inl h⟩
theorem Step.of {A : List Addr} {H H' : Hp} (s : Sm H H') : Step A H A H' := ⟨s.x, fun a h => .inl h⟩
theorem Step.trans {A A1 A2 : List Addr} {H H1 H2 : Hp} (s : Step A H A1 H1) (t : Step A1 H1 A2 H2) : Step A H A2 H2 := by
  have no : ∀ a o, a ∉ A → H a = some o → a ∉ A1 := fun a o n e z => by
    rcases s.2 a z with y | y
    · exact n y
    · rw [e] at y; cases y
  refine ⟨fun a o n e => t.1 a o (no a o n e) (s.1 a o n e), fun a h => ?_⟩
  by_cases q : a ∈ A
  · exact .inl q
  · cases e : H a with
    | none => exact .inr rfl
    | some o =>
      rcases t.2 a h with y | y
      · exact absurd y (no a o q e)
      · rw [s.1 a o q e] at y; cases y
inductive Out where
  | nx (ρ : Rho) | ret (d : D) | bk (ρ : Rho) | ct (ρ : Rho)
def OutOk (H0 : Hp) (B A : List Addr) (H : Hp) (E : Ends) : Out → Prop
  | .nx ρ' => ∀ A' σ' H', Step A H A' H' → Sim H0 B A' H' σ' ρ' → E.nx σ' H'
  | .bk ρ' => ∀ A' σ' H', Step A H A' H' → Sim H0 B A' H' σ' ρ' → E.bk σ' H'
  | .ct ρ' => ∀ A' σ' H', Step A H A' H' → Sim H0 B A' H' σ' ρ' → E.ct σ' H'
  | .ret d => ∀ v H', Sm H0 H' → Rp B H' d v → E.rt v H'
def tS (F : Rho → Option Out) : TS := fun E σ H => ∃ H0 B A ρ o, Sim H0 B A H σ ρ ∧ F ρ = some o ∧ OutOk H0 B A H E o
theorem OutOk.step {H0 : Hp} {B A A1 : List Addr} {H H1 : Hp} {E : Ends} {o : Out} (s : Step A H A1 H1) (h : OutOk H0 B A H E o) : OutOk H0 B A1 H1 E o := by
  cases o with
  | nx ρ => exact fun A' σ' H' t S => h A' σ' H' (s.trans t) S
  | bk ρ => exact fun A' σ' H' t S => h A' σ' H' (s.trans t) S
  | ct ρ => exact fun A' σ' H' t S => h A' σ' H' (s.trans t) S
  | ret d => exact h
section
variable {X : Cx}
abbrev QS (X : Cx) (st : Stmt) (F : Rho → Option Out) : Prop := PS X st (tS F)
abbrev QSs (X : Cx) (st : List Stmt) (F : Rho → Option Out) : Prop := PSs X st (tS F)
def fNext : Rho → Option Out := fun ρ => some (.nx ρ)
def fSeq (F G : Rho → Option Out) : Rho → Option Out := fun ρ => (F ρ).bind fun o => match o with
  | .nx ρ1 => G ρ1
  | o => some o
theorem ss_nil : QSs X [] fNext := pss_nil.imp fun E σ H ⟨H0, B, A, ρ, o, S, q, k⟩ => by
  cases q
  exact k A σ H (Step.refl A H) S
theorem seq_of {F G : Rho → Option Out} {E : Ends} {σ : L2.St} {H : Hp} (w : tS (fSeq F G) E σ H) : tSeq (tS F) (tS G) E σ H := by
  obtain ⟨H0, B, A, ρ, o, S, q, k⟩ := w
  obtain ⟨o1, e1, e2⟩ := bind1 q
  refine ⟨H0, B, A, ρ, o1, S, e1, ?_⟩
  cases o1 with
  | nx ρ1 => exact fun A' σ' H' t S' => ⟨H0, B, A', ρ1, o, S', e2, k.step t⟩
  | bk ρ => cases e2; exact k
  | ct ρ => cases e2; exact k
  | ret d => cases e2; exact k
theorem ss_cons {st : Stmt} {rest : List Stmt} {F G : Rho → Option Out} (h1 : QS X st F) (h2 : QSs X rest G) : QSs X (st :: rest) (fSeq F G) := (pss_cons h1 h2).imp fun E σ H w => seq_of w
theorem ss_one {st : Stmt} {F : Rho → Option Out} (h1 : QS X st F) : QSs X [st] F := pss_one h1
/-- released: an owned thing becomes a datum -/
def rel (i : Nat) (ρ : Rho) : Rho := match ρ[i]? with
  | some (some (.o d)) => ρ.set i (some (.r d))
  | _ => ρ
theorem Sim.rel {H0 : Hp} {B A : List Addr} {H : Hp} {σ : L2.St} {ρ : Rho} (S : Sim H0 B A H σ ρ) (i : Nat) : ∃ A', Step A H A' H ∧ Sim H0 B A' H σ (LY.rel i ρ) := by
  unfold LY.rel
  split
  · rename_i d hd
    obtain ⟨a, ha, haA, how⟩ := S.sl i _ hd
    obtain ⟨a', ha', haB⟩ := S.own i d hd
    rw [ha] at ha'; cases ha'
    have hi : i < ρ.length := (List.getElem?_eq_some_iff.mp hd).1
    have mem : ∀ b, b ∈ A.filter (fun b => decide (b ≠ a)) → b ∈ A ∧ b ≠ a := fun b hb => by
      obtain ⟨h1, h2⟩ := List.mem_filter.mp hb
      exact ⟨h1, of_decide_eq_true h2⟩
    have cutA : ∀ b ∈ A.filter (fun b => decide (b ≠ a)), b ∈ A ∨ H b = none := fun b hb => .inl (mem b hb).1
    have nA : a ∉ A.filter (fun b => decide (b ≠ a)) := fun hb => (mem a hb).2 rfl
    refine ⟨A.filter (fun b => decide (b ≠ a)), ⟨SameX.refl _ _, cutA⟩, ?_⟩
    have get : ∀ (j : Nat) (x : SV), (ρ.set i (some (.r d)))[j]? = some (some x) → (j = i ∧ x = .r d) ∨ (j ≠ i ∧ ρ[j]? = some (some x)) := fun j x e => by
      by_cases h : i = j
      · subst h
        rw [List.getElem?_set_self hi] at e
        cases e
        exact .inl ⟨rfl, rfl⟩
      · rw [List.getElem?_set_ne h] at e
        exact .inr ⟨fun z => h z.symm, e⟩
    refine ⟨by rw [List.length_set]; exact S.len, S.same, fun b hb => S.muts b (mem b hb).1, fun b hb => List.mem_filter.mpr ⟨S.sub b hb, decide_eq_true fun z => haB (z ▸ hb)⟩, fun b hb => S.newA b (mem b hb).1, fun j x e => ?_, fun j e he => ?_, fun j l d1 d2 b h1 h2 h3 h4 => ?_⟩
    · rcases get j x e with ⟨rfl, rfl⟩ | ⟨hj, e⟩
      · refine ⟨.ref a, ha, ?_⟩
        cases d with
        | lst ds => obtain ⟨vs, h1, h2⟩ := how; exact ⟨a, vs, rfl, nA, .inl h1, h2.cut cutA⟩
        | dic ds => obtain ⟨vs, h1, h2⟩ := how; exact ⟨a, vs, rfl, nA, .inl h1, h2.cut cutA⟩
        | _ => exact how.elim
      · have := S.sl j x e
        cases x with
        | r d => obtain ⟨v, h1, h2⟩ := this; exact ⟨v, h1, h2.cut cutA⟩
        | o d' =>
          obtain ⟨b, h1, h2, h3⟩ := this
          have nb : b ≠ a := fun z => hj (S.dis j i d' d a e hd (by rw [h1, z]) ha)
          refine ⟨b, h1, List.mem_filter.mpr ⟨h2, decide_eq_true nb⟩, ?_⟩
          cases d' with
          | lst ds => obtain ⟨vs, h1, h2⟩ := h3; exact ⟨vs, h1, h2.cut cutA⟩
          | dic ds => obtain ⟨vs, h1, h2⟩ := h3; exact ⟨vs, h1, h2.cut cutA⟩
          | _ => exact h3.elim
    · rcases get j _ he with ⟨_, z⟩ | ⟨hj, e⟩
      · cases z
      · exact S.own j _ e
    · rcases get j _ h1 with ⟨_, z⟩ | ⟨_, e1⟩
      · cases z
      · rcases get l _ h2 with ⟨_, z⟩ | ⟨_, e2⟩
        · cases z
        · exact S.dis j l d1 d2 b e1 e2 h3 h4
  · exact ⟨A, Step.refl A H, S⟩
theorem rel_of {F : Rho → Option Out} {E : Ends} {σ : L2.St} {H : Hp} (i : Nat) (w : tS (fun ρ => F (rel i ρ)) E σ H) : tS F E σ H := by
  obtain ⟨H0, B, A, ρ, o, S, q, k⟩ := w
  obtain ⟨A', st, S'⟩ := S.rel i
  exact ⟨H0, B, A', _, o, S', q, k.step st⟩
def fRel (i : Nat) (F : Rho → Option Out) : Rho → Option Out := fun ρ => F (rel i ρ)
theorem s_rel {st : Stmt} {F : Rho → Option Out} (i : Nat) (h : QS X st F) : QS X st (fRel i F) := h.imp fun E σ H w => rel_of i w
theorem ss_rel {st : List Stmt} {F : Rho → Option Out} (i : Nat) (h : QSs X st F) : QSs X st (fRel i F) := h.imp fun E σ H w => rel_of i w

/-! ### small statements -/
def fDrop (g : Den) : Rho → Option Out := fun ρ => (g ρ).bind fun _ => some (.nx ρ)
theorem s_expr {e : Expr} {g : Den} {pos : Pos} (he : QV X e g) (hs : swapsWith e none pos.line X.env = pure false := by rfl) : QS X (.Expr e pos) (fDrop g) :=
  (ps_expr he hs).imp fun E σ H ⟨H0, B, A, ρ, o, S, q, k⟩ => by
    obtain ⟨d, e1, e2⟩ := bind1 q
    cases e2
    exact ⟨H0, B, A, ρ, d, S, e1, fun v H1 s1 r1 => k A σ H1 (Step.of s1) (S.ext s1)⟩
def fRet (g : Den) : Rho → Option Out := fun ρ => (g ρ).bind fun d => some (.ret d)
theorem s_ret {e : Expr} {g : Den} {pos : Pos} (he : QE X e g) : QS X (.Return (some e) pos) (fRet g) :=
  (ps_ret he).imp fun E σ H ⟨H0, B, A, ρ, o, S, q, k⟩ => by
    obtain ⟨d, e1, e2⟩ := bind1 q
    cases e2
    exact ⟨H0, B, A, ρ, d, S, e1, fun v H1 s1 r1 => k v H1 (S.same.trans s1) (r1.cut fun a h => .inl (S.sub a h))⟩
theorem s_retN {pos : Pos} : QS X (.Return none pos) (fRet (dK .non)) := ps_retN.imp fun E σ H ⟨H0, B, A, ρ, o, S, q, k⟩ => by
  cases q
  exact k .non H S.same rfl
def fNever : Rho → Option Out := fun _ => none
theorem s_never {st : Stmt} : QS X st fNever := ps_never.imp fun E σ H ⟨H0, B, A, ρ, o, S, q, k⟩ => by cases q
theorem ss_never {st : List Stmt} : QSs X st fNever := pss_never.imp fun E σ H ⟨H0, B, A, ρ, o, S, q, k⟩ => by cases q
def fBreak : Rho → Option Out := fun ρ => some (.bk ρ)
theorem s_break {pos : Pos} : QS X (.Break pos) fBreak := ps_break.imp fun E σ H ⟨H0, B, A, ρ, o, S, q, k⟩ => by
  cases q
  exact k A σ H (Step.refl A H) S
def fCont : Rho → Option Out := fun ρ => some (.ct ρ)
theorem s_cont {pos : Pos} : QS X (.Continue pos) fCont := ps_continue.imp fun E σ H ⟨H0, B, A, ρ, o, S, q, k⟩ => by
  cases q
  exact k A σ H (Step.refl A H) S
theorem s_pass {pos : Pos} : QS X (.Pass pos) fNext := ps_pass.imp fun E σ H ⟨H0, B, A, ρ, o, S, q, k⟩ => by
  cases q
  exact k A σ H (Step.refl A H) S
def fIf (c : Rho → Option Bool) (F G : Rho → Option Out) : Rho → Option Out := fun ρ => (c ρ).bind fun b => if b = true then F ρ else G ρ
theorem s_if {c : Expr} {a b : List Stmt} {g : Rho → Option Bool} {F G : Rho → Option Out} {pos : Pos} (hc : QT X c g) (ha : QSs X a F) (hb : QSs X b G) : QS X (.If c a b pos) (fIf g F G) :=
  (ps_if hc ha hb).imp fun E σ H ⟨H0, B, A, ρ, o, S, q, k⟩ => by
    obtain ⟨x, e1, e2⟩ := bind1 q
    refine ⟨H0, B, A, ρ, x, S, e1, fun H1 s1 => ?_⟩
    by_cases hx : x = true
    · rw [if_pos hx] at e2 ⊢
      exact ⟨H0, B, A, ρ, o, S.ext s1, e2, k.step (Step.of s1)⟩
    · rw [if_neg hx] at e2 ⊢
      exact ⟨H0, B, A, ρ, o, S.ext s1, e2, k.step (Step.of s1)⟩

/-! ### assignments -/
def fAsg (b : D → Rho → Option Rho) (g : Den) : Rho → Option Out := fun ρ => (g ρ).bind fun d => (b d ρ).bind fun ρ1 => some (.nx ρ1)
theorem asg_of {is : List Nat} {b : D → Rho → Option Rho} {g : Den} {E : Ends} {σ : L2.St} {H : Hp} (w : tS (fAsg b g) E σ H) : tAsg (tE g) (tG is b) E σ H := by
  obtain ⟨H0, B, A, ρ, o, S, q, k⟩ := w
  obtain ⟨d, e1, e2⟩ := bind1 q
  obtain ⟨ρ1, e4, e3⟩ := bind1 e2
  cases e3
  exact ⟨H0, B, A, ρ, d, S, e1, fun v H1 s1 r1 => ⟨H0, B, A, ρ, d, ρ1, S.ext s1, r1, e4, fun σ' l f S' => k A σ' H1 (Step.of s1) S'⟩⟩
theorem asgN_of {i : Nat} {g : Den} {E : Ends} {σ : L2.St} {H : Hp} (w : tS (fAsg (bName i) g) E σ H) : tAsg (tE g) (gName i) E σ H := by
  obtain ⟨H0, B, A, ρ, o, S, q, k⟩ := w
  obtain ⟨d, e1, e2⟩ := bind1 q
  obtain ⟨ρ1, e2, e3⟩ := bind1 e2
  cases e3
  cases e2
  exact ⟨H0, B, A, ρ, d, S, e1, fun v H1 s1 r1 => k A _ H1 (Step.of s1) ((S.ext s1).set r1)⟩
theorem s_set {i : Nat} {x : Str} {e : Expr} {g : Den} {pos pos' : Pos} (hN : X.N.Nodup) (hi : X.N[i]? = some x) (hx : Loc X.env.scope x) (he : QE X e g) (hs : swapsWith e (some (.Name x pos')) pos.line X.env = pure false := by rfl)
    (hf : X.fn x = true ∨ X.env.scope.names.lookup x = some .local := by first | exact .inl rfl | exact .inr rfl | assumption) : QS X (.Assign [.Name x pos'] e pos) (fAsg (bName i) g) :=
  (ps_set hN hi hx he hs hf).imp fun E σ H w => asgN_of w
theorem s_asg {tg e : Expr} {is : List Nat} {b : D → Rho → Option Rho} {g : Den} {pos : Pos} (he : QE X e g) (hg : QG X tg is b) (hs : swapsWithSole [tg] e pos.line X.env = pure false := by rfl) (hw : swappedStores [tg] e X.env = pure none := by rfl)
    (h1 : (assignEach [tg] X.env).map (·.2) = [assign tg X.env] := by rfl) : QS X (.Assign [tg] e pos) (fAsg b g) :=
  (ps_asg he hg hs hw h1).imp fun E σ H w => asg_of w
/-! ### values that a slot takes: data, or new things that it owns -/
def ZOk (B A : List Addr) (H : Hp) : SV → V → Prop
  | .r d, v => Rp A H d v
  | .o d, v => ∃ a, v = .ref a ∧ a ∈ A ∧ a ∉ B ∧ Ow A H d a
theorem ZOk.ext {B A A' : List Addr} {H H' : Hp} {x : SV} {v : V} (s : Sm H H') (c : ∀ a ∈ A', a ∈ A ∨ H a = none) (t : ∀ a ∈ A, a ∈ A') (z : ZOk B A H x v) : ZOk B A' H' x v := by
  cases x with
  | r d => exact (Rp.cut c z).ext s.x
  | o d =>
    obtain ⟨a, e, h1, h2, h3⟩ := z
    refine ⟨a, e, t a h1, h2, ?_⟩
    cases d with
    | lst ds => obtain ⟨vs, g1, g2⟩ := h3; exact ⟨vs, s _ _ g1, (g2.cut c).ext s.x⟩
    | dic ds => obtain ⟨vs, g1, g2⟩ := h3; exact ⟨vs, s _ _ g1, (g2.cut c).ext s.x⟩
    | _ => exact h3.elim
theorem Sim.put {H0 : Hp} {B A : List Addr} {H : Hp} {σ : L2.St} {ρ : Rho} (S : Sim H0 B A H σ ρ) {i : Nat} {x : SV} {v : V} (z : ZOk B A H x v) (hi : i < ρ.length)
    (fr : ∀ (d : D) (a : Addr), x = .o d → v = .ref a → ∀ (j : Nat) (e : D), ρ[j]? = some (some (.o e)) → σ[j]? ≠ some (some (.ref a))) : Sim H0 B A H (σ.set i (some v)) (ρ.set i (some x)) := by
  have hiσ : i < σ.length := by rw [← S.len]; exact hi
  have get : ∀ (j : Nat) (y : SV), (ρ.set i (some x))[j]? = some (some y) → (j = i ∧ y = x) ∨ (j ≠ i ∧ ρ[j]? = some (some y)) := fun j y e => by
    by_cases h : i = j
    · subst h
      rw [List.getElem?_set_self hi] at e
      cases e
      exact .inl ⟨rfl, rfl⟩
    · rw [List.getElem?_set_ne h] at e
      exact .inr ⟨fun z => h z.symm, e⟩
  have oth : ∀ (j : Nat), j ≠ i → (σ.set i (some v))[j]? = σ[j]? := fun j h => List.getElem?_set_ne fun z => h z.symm
  refine ⟨by rw [List.length_set, List.length_set]; exact S.len, S.same, S.muts, S.sub, S.newA, fun j y e => ?_, fun j e he => ?_, fun j l d1 d2 b g1 g2 g3 g4 => ?_⟩
  · rcases get j y e with ⟨rfl, rfl⟩ | ⟨hj, e⟩
    · cases y with
      | r d => exact ⟨v, List.getElem?_set_self hiσ, z⟩
      | o d => obtain ⟨a, rfl, h1, h2, h3⟩ := z; exact ⟨a, List.getElem?_set_self hiσ, h1, h3⟩
    · have := S.sl j y e
      cases y with
      | r d => obtain ⟨v, h1, h2⟩ := this; exact ⟨v, by rw [oth j hj]; exact h1, h2⟩
      | o d => obtain ⟨v, h1, h2⟩ := this; exact ⟨v, by rw [oth j hj]; exact h1, h2⟩
  · rcases get j _ he with ⟨rfl, q⟩ | ⟨hj, e⟩
    · subst q
      obtain ⟨a, rfl, h1, h2, h3⟩ := z
      exact ⟨a, List.getElem?_set_self hiσ, h2⟩
    · obtain ⟨a, e1, e2⟩ := S.own j _ e
      exact ⟨a, by rw [oth j hj]; exact e1, e2⟩
  · rcases get j _ g1 with ⟨rfl, q⟩ | ⟨hj, e1⟩
    · rw [List.getElem?_set_self hiσ] at g3
      cases g3
      rcases get l _ g2 with ⟨rfl, _⟩ | ⟨hl, e2⟩
      · rfl
      · rw [oth l hl] at g4
        exact absurd g4 (fr d1 b q.symm rfl l _ e2)
    · rw [oth j hj] at g3
      rcases get l _ g2 with ⟨rfl, q⟩ | ⟨hl, e2⟩
      · rw [List.getElem?_set_self hiσ] at g4
        cases g4
        exact absurd g3 (fr d2 b q.symm rfl j _ e1)
      · rw [oth l hl] at g4
        exact S.dis j l d1 d2 b e1 e2 g3 g4
/-- an address that no slot owns may be excluded besides -/
theorem Sim.add {H0 : Hp} {B A : List Addr} {H H1 : Hp} {σ : L2.St} {ρ : Rho} (S : Sim H0 B A H σ ρ) {p : Addr} {o : HO} (s : Sm H H1) (hp : H p = none) (h1 : H1 p = some o) (mo : isMut o = true) : Sim H0 B (p :: A) H1 σ ρ := by
  have cutA : ∀ a ∈ p :: A, a ∈ A ∨ H a = none := fun a ha => by
    rcases List.mem_cons.mp ha with rfl | ha
    · exact .inr hp
    · exact .inl ha
  refine ⟨S.len, S.same.trans s, fun a ha => ?_, fun a ha => List.mem_cons_of_mem _ (S.sub a ha), fun a ha => ?_, fun j x e => ((S.sl j x e).cut cutA fun a ha => List.mem_cons_of_mem _ ha).ext s, S.own, S.dis⟩
  · rcases List.mem_cons.mp ha with rfl | ha
    · exact ⟨o, h1, mo⟩
    · exact S.muts.ext s a ha
  · rcases List.mem_cons.mp ha with rfl | ha
    · exact .inr (S.same.none hp)
    · exact S.newA a ha
abbrev DenZ := Rho → Option SV
def tZ (z : DenZ) : TE := fun σ H Q => ∃ H0 B A ρ x, Sim H0 B A H σ ρ ∧ z ρ = some x ∧ ∀ v A' H', Sm H H' → (∀ a ∈ A', a ∈ A ∨ H a = none) → (∀ a ∈ A, a ∈ A') → Sim H0 B A' H' σ ρ → ZOk B A' H' x v → (∀ d a, x = .o d → v = .ref a → a ∉ A) → Q v H'
abbrev QZ (X : Cx) (e : Expr) (z : DenZ) : Prop := PE X e (tZ z)
def zR (g : Den) : DenZ := fun ρ => (g ρ).bind fun d => some (.r d)
def zO (g : Rho → Option (List D)) : DenZ := fun ρ => (g ρ).bind fun d => some (.o (.lst d))
theorem zR_of {g : Den} {σ : L2.St} {H : Hp} {Q : VK} (w : tZ (zR g) σ H Q) : tE g σ H Q := by
  obtain ⟨H0, B, A, ρ, x, S, q, k⟩ := w
  obtain ⟨d, e1, e2⟩ := bind1 q
  cases e2
  exact ⟨H0, B, A, ρ, d, S, e1, fun v H' s r => k v A H' s (fun a h => .inl h) (fun a h => h) (S.ext s) r (fun d a h => by cases h)⟩
theorem zO_of {g : Rho → Option (List D)} {σ : L2.St} {H : Hp} {Q : VK} (w : tZ (zO g) σ H Q) : tF g σ H Q := by
  obtain ⟨H0, B, A, ρ, x, S, q, k⟩ := w
  obtain ⟨d, e1, e2⟩ := bind1 q
  cases e2
  refine ⟨H0, B, A, ρ, d, S, e1, fun p vs H' s hp h1 r => ?_⟩
  have pA := S.muts.new hp
  refine k (.ref p) (p :: A) H' s (fun a ha => ?_) (fun a h => List.mem_cons_of_mem _ h) (S.add s hp h1 rfl) ⟨p, rfl, List.mem_cons_self, fun z => pA (S.sub p z), vs, h1, r⟩ (fun d a _ e => by cases e; exact pA)
  rcases List.mem_cons.mp ha with rfl | ha
  · exact .inr hp
  · exact .inl ha
theorem QE.z {e : Expr} {g : Den} (h : QE X e g) : QZ X e (zR g) := h.imp fun σ H Q w => zR_of w
theorem QF.z {e : Expr} {g : Rho → Option (List D)} (h : QF X e g) : QZ X e (zO g) := h.imp fun σ H Q w => zO_of w
def fPut (i : Nat) (z : DenZ) : Rho → Option Out := fun ρ => (z ρ).bind fun x => if i < ρ.length then some (.nx (ρ.set i (some x))) else none
theorem put_of {i : Nat} {z : DenZ} {E : Ends} {σ : L2.St} {H : Hp} (w : tS (fPut i z) E σ H) : tAsg (tZ z) (gName i) E σ H := by
  obtain ⟨H0, B, A, ρ, o, S, q, k⟩ := w
  obtain ⟨x, e1, e2⟩ := bind1 q
  split at e2
  · cases e2
    rename_i hi
    refine ⟨H0, B, A, ρ, x, S, e1, fun v A' H' s c t S' zo fr => k A' _ H' ⟨s.x, c⟩ (S'.put zo hi fun d a ex ev j e he hs => ?_)⟩
    obtain ⟨b, h1, h2, _⟩ := S.sl j _ he
    rw [hs] at h1; cases h1
    exact fr d a ex ev h2
  · cases e2
theorem s_put {i : Nat} {x : Str} {e : Expr} {z : DenZ} {pos pos' : Pos} (hN : X.N.Nodup) (hi : X.N[i]? = some x) (hx : Loc X.env.scope x) (he : QZ X e z) (hs : swapsWith e (some (.Name x pos')) pos.line X.env = pure false := by rfl)
    (hf : X.fn x = true ∨ X.env.scope.names.lookup x = some .local := by first | exact .inl rfl | exact .inr rfl | assumption) : QS X (.Assign [.Name x pos'] e pos) (fPut i z) :=
  (ps_set hN hi hx he hs hf).imp fun E σ H w => put_of w
/-- name = [.. for ..] in one line -/
theorem s_putLc {i : Nat} {y : Str} {py spos : Pos} {elt tg iter : Expr} {ifs : List Expr} {scope : Scope} {own : List (Str × Nat)} {pos : Pos} {is : List Nat} {gi : Rho → Option (List D)} {b : D → Rho → Option Rho} {t : Rho → Option Bool} {f : Den} (hc : X.calm = true) (hN : X.N.Nodup) (hy : X.N[i]? = some y) (hyl : X.env.scope.names.lookup y = some .local)
    (hsw : swapsWith (.ListComp elt [⟨tg, iter, ifs, 0⟩] scope pos) (some (.Name y py)) spos.line X.env = pure true) (ok : BlkOk X.N X.env.scope scope own) (hi : QIV X tg iter gi)
    (hg : ∀ (s : Shared) (H : Hp) (C : Addr) (cl : List (Str × Addr)) (fp : List Addr), QG (X.blk s H scope (compEnvC scope cl C X.env) fp) tg is b) (ht : ∀ (s : Shared) (H : Hp) (C : Addr) (cl : List (Str × Addr)) (fp : List Addr), QTs (X.blk s H scope (compEnvC scope cl C X.env) fp) ifs t)
    (he : ∀ (s : Shared) (H : Hp) (C : Addr) (cl : List (Str × Addr)) (fp : List Addr), QE (X.blk s H scope (compEnvC scope cl C X.env) fp) elt f) (his : ∀ i ∈ is, i ∈ own.map (·.2)) (hs : ∀ x, foldedSetIterable iter X.env x = pure x := by intro _; rfl) :
    QS X (.Assign [.Name y py] (.ListComp elt [⟨tg, iter, ifs, 0⟩] scope pos) spos) (fPut i (zO (dComp (own.map (·.2)) gi b t f))) :=
  (ps_setLc hc hN hy hyl hsw hi ok hg ht he hs).imp fun E σ H w => lc_den his (zO_of (put_of w))
/-- .. as a datum -/
theorem s_putLcR {i : Nat} {y : Str} {py spos : Pos} {elt tg iter : Expr} {ifs : List Expr} {scope : Scope} {own : List (Str × Nat)} {pos : Pos} {is : List Nat} {gi : Rho → Option (List D)} {b : D → Rho → Option Rho} {t : Rho → Option Bool} {f : Den} (hc : X.calm = true) (hN : X.N.Nodup) (hy : X.N[i]? = some y) (hyl : X.env.scope.names.lookup y = some .local)
    (hsw : swapsWith (.ListComp elt [⟨tg, iter, ifs, 0⟩] scope pos) (some (.Name y py)) spos.line X.env = pure true) (ok : BlkOk X.N X.env.scope scope own) (hi : QIV X tg iter gi)
    (hg : ∀ (s : Shared) (H : Hp) (C : Addr) (cl : List (Str × Addr)) (fp : List Addr), QG (X.blk s H scope (compEnvC scope cl C X.env) fp) tg is b) (ht : ∀ (s : Shared) (H : Hp) (C : Addr) (cl : List (Str × Addr)) (fp : List Addr), QTs (X.blk s H scope (compEnvC scope cl C X.env) fp) ifs t)
    (he : ∀ (s : Shared) (H : Hp) (C : Addr) (cl : List (Str × Addr)) (fp : List Addr), QE (X.blk s H scope (compEnvC scope cl C X.env) fp) elt f) (his : ∀ i ∈ is, i ∈ own.map (·.2)) (hs : ∀ x, foldedSetIterable iter X.env x = pure x := by intro _; rfl) :
    QS X (.Assign [.Name y py] (.ListComp elt [⟨tg, iter, ifs, 0⟩] scope pos) spos) (fAsg (bName i) (dLst (dComp (own.map (·.2)) gi b t f))) :=
  (ps_setLc hc hN hy hyl hsw hi ok hg ht he hs).imp fun E σ H w => by
    have w2 : tE (dLst (dComp (own.map (·.2)) gi b t f)) σ H (fun x H1 => gName i x σ H1 E.nx) := asgN_of w
    obtain ⟨H0, B, A, ρ, d, S, q, k⟩ := w2
    obtain ⟨ds, e1, e2⟩ := bind1 q
    cases e2
    exact lc_den his ⟨H0, B, A, ρ, ds, S, e1, fun p vs H' s n e r => k _ H' s ⟨p, vs, rfl, S.muts.new n, .of e, r.cut fun a ha => .inl (List.mem_cons_of_mem _ ha)⟩⟩
/-- a, b = x, y -/
def fPut2 (i j : Nat) (z y : DenZ) : Rho → Option Out := fun ρ => (z ρ).bind fun x => (y ρ).bind fun x' => if i < ρ.length ∧ j < ρ.length then some (.nx ((ρ.set i (some x)).set j (some x'))) else none
theorem s_par {i j : Nat} {x y : Str} {a b : Expr} {za zb : DenZ} {px py pt pos : Pos} {kt k2 pt2} (hc : X.calm = true) (hN : X.N.Nodup) (hi : X.N[i]? = some x) (hj : X.N[j]? = some y) (hij : i ≠ j)
    (hx : X.env.scope.names.lookup x = some .local) (hy : X.env.scope.names.lookup y = some .local) (ha : QZ X a za) (hb : QZ X b zb)
    (hw : swappedStores [.Tuple [.Name x px, .Name y py] kt pt] (.Tuple [a, b] k2 pt2) X.env = pure (some [x, y]))
    (hs1 : starEach [a, b] X.env = (false, eval a X.env) :: starEach [b] X.env := by rfl) (hs2 : starEach [b] X.env = (false, eval b X.env) :: starEach [] X.env := by rfl)
    (hs : swapsWithSole [.Tuple [.Name x px, .Name y py] kt pt] (.Tuple [a, b] k2 pt2) pos.line X.env = pure false := by rfl) :
    QS X (.Assign [.Tuple [.Name x px, .Name y py] kt pt] (.Tuple [a, b] k2 pt2) pos) (fPut2 i j za zb) :=
  (ps_par hc hN hi hj hij hx hy (pa_cons ha (pa_cons hb pa_nil hs2) hs1) hw hs).imp fun E σ H ⟨H0, B, A, ρ, o, S, q, k⟩ => by
    obtain ⟨x1, x2, e1, e2, e3⟩ := bind2 q
    split at e3
    · cases e3
      rename_i hl
      refine ⟨H0, B, A, ρ, x1, S, e1, fun v A1 H1 s1 c1 t1 S1 z1 f1 => ?_⟩
      refine ⟨H0, B, A1, ρ, x2, S1, e2, fun w A2 H2 s2 c2 t2 S2 z2 f2 => ?_⟩
      have st : Step A H A2 H2 := Step.trans ⟨s1.x, c1⟩ ⟨s2.x, c2⟩
      refine ⟨v, w, rfl, k A2 _ H2 st ?_⟩
      have z1' := z1.ext s2 c2 t2
      have P1 : Sim H0 B A2 H2 (σ.set i (some v)) (ρ.set i (some x1)) := S2.put z1' hl.1 fun d a ex ev l e he hs => by
        obtain ⟨b, h1, h2, _⟩ := S.sl l _ he
        rw [hs] at h1; cases h1
        exact f1 d a ex ev h2
      refine P1.put z2 (by rw [List.length_set]; exact hl.2) fun d a ex ev l e he hs => ?_
      have nA1 := f2 d a ex ev
      by_cases hli : i = l
      · subst hli
        rw [List.getElem?_set_self (by rw [← S.len]; exact hl.1)] at hs
        rw [List.getElem?_set_self hl.1] at he
        cases he
        obtain ⟨b, h1, h2, _⟩ := z1
        cases hs
        cases h1
        exact nA1 h2
      · rw [List.getElem?_set_ne hli] at hs he
        obtain ⟨b, h1, h2, _⟩ := S1.sl l _ he
        rw [hs] at h1; cases h1
        exact nA1 h2
    · cases e3
end
end LY
set_option Elab.async false
set_option linter.all false
set_option maxRecDepth 100000
set_option maxHeartbeats 1000000
/-! LY8: owned things changed; loops; the rule for a def -/
namespace LY
open PySem PySem.Spec PyProof.Rows L2
/-- the owned thing of slot i is rewritten -/
theorem Sim.own_upd {H0 : Hp} {B A : List Addr} {H : Hp} {σ : L2.St} {ρ : Rho} (S : Sim H0 B A H σ ρ) {i : Nat} {d d' : D} {a : Addr} {u : HO} (hd : ρ[i]? = some (some (.o d))) (ha : σ[i]? = some (some (.ref a))) (mu : isMut u = true)
    (ow : Ow A (upd H a u) d' a) : Step A H A (upd H a u) ∧ Sim H0 B A (upd H a u) σ (ρ.set i (some (.o d'))) := by
  obtain ⟨a1, h1, aA, _⟩ := S.sl i _ hd
  rw [ha] at h1; cases h1
  obtain ⟨a1, h1, aB⟩ := S.own i d hd
  rw [ha] at h1; cases h1
  have hi : i < ρ.length := (List.getElem?_eq_some_iff.mp hd).1
  have n0 : H0 a = none := (S.newA a aA).resolve_left aB
  have sx : SameX A H (upd H a u) := fun b o n e => by
    rw [upd_ne fun z : b = a => n (by rw [z]; exact aA)]
    exact e
  refine ⟨⟨sx, fun b hb => .inl hb⟩, ?_⟩
  have get : ∀ (j : Nat) (y : SV), (ρ.set i (some (.o d')))[j]? = some (some y) → (j = i ∧ y = .o d') ∨ (j ≠ i ∧ ρ[j]? = some (some y)) := fun j y e => by
    by_cases h : i = j
    · subst h
      rw [List.getElem?_set_self hi] at e
      cases e
      exact .inl ⟨rfl, rfl⟩
    · rw [List.getElem?_set_ne h] at e
      exact .inr ⟨fun z => h z.symm, e⟩
  refine ⟨by rw [List.length_set]; exact S.len, fun b o e => ?_, fun b hb => ?_, S.sub, S.newA, fun j y e => ?_, fun j e he => ?_, fun j l d1 d2 b g1 g2 g3 g4 => ?_⟩
  · rw [upd_ne (ne_of_none e n0)]
    exact S.same b o e
  · by_cases q : b = a
    · subst q; exact ⟨u, upd_same, mu⟩
    · rw [upd_ne q]; exact S.muts b hb
  · rcases get j y e with ⟨rfl, rfl⟩ | ⟨hj, e⟩
    · exact ⟨a, ha, aA, ow⟩
    · have := S.sl j y e
      cases y with
      | r d => obtain ⟨v, h1, h2⟩ := this; exact ⟨v, h1, h2.ext sx⟩
      | o d2 =>
        obtain ⟨b, h1, h2, h3⟩ := this
        have nb : b ≠ a := fun z => hj (S.dis j i d2 d a e hd (by rw [h1, z]) ha)
        refine ⟨b, h1, h2, ?_⟩
        cases d2 with
        | lst ds => obtain ⟨vs, g1, g2⟩ := h3; exact ⟨vs, by rw [upd_ne nb]; exact g1, g2.ext sx⟩
        | dic ds => obtain ⟨vs, g1, g2⟩ := h3; exact ⟨vs, by rw [upd_ne nb]; exact g1, g2.ext sx⟩
        | _ => exact h3.elim
  · rcases get j _ he with ⟨rfl, q⟩ | ⟨hj, e1⟩
    · cases q
      exact ⟨a, ha, aB⟩
    · exact S.own j _ e1
  · have e1 : ∃ d, ρ[j]? = some (some (.o d)) := by
      rcases get j _ g1 with ⟨rfl, _⟩ | ⟨_, e⟩
      · exact ⟨d, hd⟩
      · exact ⟨_, e⟩
    have e2 : ∃ d, ρ[l]? = some (some (.o d)) := by
      rcases get l _ g2 with ⟨rfl, _⟩ | ⟨_, e⟩
      · exact ⟨d, hd⟩
      · exact ⟨_, e⟩
    obtain ⟨x1, e1⟩ := e1
    obtain ⟨x2, e2⟩ := e2
    exact S.dis j l x1 x2 b e1 e2 g3 g4

/-! ### loops -/
def loopF (b : D → Rho → Option Rho) (F : Rho → Option Out) : List D → Rho → Option Out
  | [], ρ => some (.nx ρ)
  | d :: ds, ρ => (b d ρ).bind fun ρ1 => (F ρ1).bind fun o => match o with
    | .nx ρ2 => loopF b F ds ρ2
    | .ct ρ2 => loopF b F ds ρ2
    | .bk ρ2 => some (.nx ρ2)
    | .ret d => some (.ret d)
def fFor (gi : Rho → Option (List D)) (b : D → Rho → Option Rho) (F : Rho → Option Out) : Rho → Option Out := fun ρ => (gi ρ).bind fun ds => loopF b F ds ρ
def fuelW : Nat := 1000000
def whileF (c : Rho → Option Bool) (F : Rho → Option Out) : Nat → Rho → Option Out
  | 0, _ => none
  | n + 1, ρ => (c ρ).bind fun b => if b = true then (F ρ).bind fun o => match o with
    | .nx ρ2 => whileF c F n ρ2
    | .ct ρ2 => whileF c F n ρ2
    | .bk ρ2 => some (.nx ρ2)
    | .ret d => some (.ret d) else some (.nx ρ)
def fWhile (c : Rho → Option Bool) (F : Rho → Option Out) : Rho → Option Out := whileF c F fuelW
theorem whileF_mono {c : Rho → Option Bool} {F : Rho → Option Out} : ∀ {n m : Nat} {ρ : Rho} {o : Out}, n ≤ m → whileF c F n ρ = some o → whileF c F m ρ = some o
  | 0, _, _, _, _, h => by cases h
  | n + 1, 0, _, _, l, _ => by omega
  | n + 1, m + 1, ρ, o, l, h => by
    rw [whileF] at h ⊢
    obtain ⟨b, e1, e2⟩ := bind1 h
    rw [e1]
    by_cases hb : b = true
    · rw [if_pos hb] at e2
      obtain ⟨o1, e3, e4⟩ := bind1 e2
      simp only [Option.bind_some, if_pos hb, e3]
      cases o1 with
      | nx ρ2 => exact whileF_mono (by omega) e4
      | ct ρ2 => exact whileF_mono (by omega) e4
      | bk ρ2 => exact e4
      | ret d => exact e4
    · rw [if_neg hb] at e2
      simp only [Option.bind_some, if_neg hb]
      exact e2
theorem fWhile_of {c : Rho → Option Bool} {F : Rho → Option Out} {n : Nat} {ρ : Rho} {o : Out} (h : whileF c F n ρ = some o) (hn : n ≤ fuelW) : fWhile c F ρ = some o := whileF_mono hn h
section
variable {X : Cx}
theorem s_for {tg iter : Expr} {body : List Stmt} {pos : Pos} {is : List Nat} {gi : Rho → Option (List D)} {b : D → Rho → Option Rho} {F : Rho → Option Out} (hp : PassesOwn (model X.prog X.w) X.A X.env X.xe) (hc : X.calm = true) (hi : QI X tg iter gi) (hg : QG X tg is b) (hb : QSs X body F)
    (hs : ∀ x, foldedSetIterable iter X.env x = pure x := by intro _; rfl) : QS X (.For tg iter body [] pos) (fFor gi b F) :=
  (ps_for hp hc hi hg hb hs).imp fun E σ H ⟨H0, B, A, ρ, o, S, q, k⟩ => by
    obtain ⟨ds, e1, e2⟩ := bind1 q
    refine ⟨H0, B, A, ρ, ds, S, e1, fun J H1 s1 W => ?_⟩
    obtain ⟨n, G, Y, w, hn, hG, hY⟩ := W.ex
    have k1 := k.step (Step.of (A := A) s1)
    refine for_it w (fun i σ' H' => ∃ A' ρ', Step A H1 A' H' ∧ Sim H0 B A' H' σ' ρ' ∧ loopF b F (ds.drop i) ρ' = some o) ⟨A, ρ, Step.refl _ _, S.ext s1, by rw [List.drop_zero]; exact e2⟩ (fun i σ' H' _ ⟨A', ρ', st, _, _⟩ => hG H' st.1) ?_ ?_
    · rintro i x σ' H' H2 hi ⟨A', ρ', st, S', el⟩ y
      obtain ⟨s2, d, d1, d2⟩ := hY A' i H' x H2 st.2 S'.muts st.1 hi y
      have hx : ds.drop i = d :: ds.drop (i + 1) := by
        obtain ⟨hlt, e⟩ := List.getElem?_eq_some_iff.mp d1
        rw [List.drop_eq_getElem_cons hlt, e]
      rw [hx, loopF] at el
      obtain ⟨ρ1, g1, el⟩ := bind1 el
      obtain ⟨o1, g2, el⟩ := bind1 el
      refine ⟨H0, B, A', ρ', d, ρ1, S'.ext s2, d2, g1, fun σ1 l1 f1 S1 => ?_⟩
      refine ⟨H0, B, A', ρ1, o1, S1, g2, ?_⟩
      have st2 : Step A H1 A' H2 := st.trans (Step.of s2)
      cases o1 with
      | nx ρ2 => exact fun A3 σ3 H3 t S3 => ⟨A3, ρ2, st2.trans t, S3, el⟩
      | ct ρ2 => exact fun A3 σ3 H3 t S3 => ⟨A3, ρ2, st2.trans t, S3, el⟩
      | bk ρ2 =>
        cases el
        exact fun A3 σ3 H3 t S3 => k1 A3 σ3 H3 (st2.trans t) S3
      | ret d =>
        cases el
        exact k1
    · rintro σ' H' ⟨A', ρ', st, S', el⟩
      have : ds.drop n = [] := by rw [hn]; exact List.drop_length
      rw [this] at el
      cases el
      exact k1 A' σ' H' st S'
theorem s_while {c : Expr} {body : List Stmt} {pos : Pos} {g : Rho → Option Bool} {F : Rho → Option Out} (hp : PassesOwn (model X.prog X.w) X.A X.env X.xe) (hc : QT X c g) (hb : QSs X body F) : QS X (.While c body [] pos) (fWhile g F) :=
  (ps_while hp hc hb).imp fun E σ H ⟨H0, B, A, ρ, o, S, q, k⟩ => by
    refine ⟨fun m σ' H' => ∃ A' ρ', Step A H A' H' ∧ Sim H0 B A' H' σ' ρ' ∧ whileF g F m ρ' = some o, ⟨fuelW, A, ρ, Step.refl _ _, S, q⟩, ?_⟩
    rintro m σ' H' ⟨A', ρ', st, S', el⟩
    cases m with
    | zero => cases el
    | succ m =>
      rw [whileF] at el
      obtain ⟨x, g1, el⟩ := bind1 el
      refine ⟨H0, B, A', ρ', x, S', g1, fun H1 s1 => ?_⟩
      have st1 : Step A H A' H1 := st.trans (Step.of s1)
      cases x with
      | true =>
        rw [if_pos rfl] at el
        refine iteT ?_
        obtain ⟨o1, g2, el⟩ := bind1 el
        refine ⟨fun σ' H' => ∃ A' ρ', Step A H A' H' ∧ Sim H0 B A' H' σ' ρ' ∧ whileF g F m ρ' = some o, fun σ2 H2 z => ⟨m, by omega, z⟩, H0, B, A', ρ', o1, S'.ext s1, g2, ?_⟩
        cases o1 with
        | nx ρ2 => exact fun A3 σ3 H3 t S3 => ⟨A3, ρ2, st1.trans t, S3, el⟩
        | ct ρ2 => exact fun A3 σ3 H3 t S3 => ⟨A3, ρ2, st1.trans t, S3, el⟩
        | bk ρ2 =>
          cases el
          exact fun A3 σ3 H3 t S3 => k A3 σ3 H3 (st1.trans t) S3
        | ret d =>
          cases el
          exact k
      | false =>
        rw [if_neg Bool.false_ne_true] at el
        refine iteF ?_
        cases el
        exact k A' σ' H1 st1 (S'.ext s1)
end
/-! ### the rule for a def -/
def rho0 (n : Nat) (ds : List D) : Rho := ds.map (fun d => some (.r d)) ++ List.replicate (n - ds.length) none
def outD : Out → Option D
  | .ret d => some d
  | .nx _ => some .non
  | _ => none
theorem sim0 {A : List Addr} {H : Hp} {ds : List D} {vs : List V} (N : List Str) (m : MutA A H) (r : RpL A H ds vs) : Sim H A A H (L2.start N vs) (rho0 N.length ds) := by
  have hl := r.length
  have get : ∀ (i : Nat) (x : SV), (rho0 N.length ds)[i]? = some (some x) → ∃ d, x = .r d ∧ ds[i]? = some d := fun i x e => by
    unfold rho0 at e
    by_cases hi : i < ds.length
    · rw [List.getElem?_append_left (by simpa using hi), List.getElem?_map] at e
      cases q : ds[i]? with
      | none => rw [q] at e; cases e
      | some d => rw [q] at e; cases e; exact ⟨d, rfl, rfl⟩
    · rw [List.getElem?_append_right (by simpa using hi), List.getElem?_replicate] at e
      split at e <;> cases e
  refine ⟨?_, Sm.refl H, m, fun a h => h, fun a h => .inl h, fun i x e => ?_, fun i d e => ?_, fun i j d e a h1 => ?_⟩
  · unfold rho0 L2.start
    simp [hl]
  · obtain ⟨d, rfl, e2⟩ := get i x e
    obtain ⟨v, e3, e4⟩ := r.get e2
    refine ⟨v, ?_, e4⟩
    have hi : i < vs.length := (List.getElem?_eq_some_iff.mp e3).1
    unfold L2.start
    rw [List.getElem?_append_left (by simpa using hi), List.getElem?_map, e3]
    rfl
  · obtain ⟨d, z, _⟩ := get i _ e
    cases z
  · obtain ⟨d, z, _⟩ := get i _ h1
    cases z
theorem fn_q {CX : CXT} {P : Program} {w : World} {K : PySem.W.Frag} {mg : Str → Option Value} {base : Heap} {x qual : Str} {params : Arguments} {body : List Stmt} {scope : Scope} {dvs : List V} {kws : List (Str × V)} {f : Addr} {fd : FuncData} {N ps : List Str} {k : Nat} {F : List D → Option D} {G : Rho → Option Out}
    (Fd : FunD K x qual params body scope dvs kws f fd) (S : FnScope N ps scope) (hF : ∀ ds d, F ds = some d → ds.length = ps.length ∧ ∃ o, G (rho0 N.length ds) = some o ∧ outD o = some d)
    (hb : ∀ (cdv : Value) (A : Around) (outer : List Env) (s : Shared) (H : Hp) (E : XK), Room k (A.deeper (envOfC qual scope s.heap.objs.size f cdv)) → QSs (cxOf CX P w K mg base N qual scope f cdv A outer s H E).nox body G) : FnOk P w K mg base CX (k + 1) f fd ps (spQ F) := by
  refine Fd.ok S (fun vs H Q E h => ?_) (fun cdv A outer s H vs Q E hr h => ⟨_, (hb cdv A outer s H E hr).nox, ?_⟩)
  · obtain ⟨A, ds, d, m, r, e, _⟩ := h
    rw [r.length, (hF ds d e).1]
  · obtain ⟨A', ds, d, m, r, e, q⟩ := h
    obtain ⟨_, o, e1, e2⟩ := hF ds d e
    refine ⟨H, A', A', rho0 N.length ds, o, sim0 N m r, e1, ?_⟩
    cases o with
    | nx ρ =>
      cases e2
      exact fun A2 σ2 H2 t S2 => q .non H2 S2.same rfl
    | ret d2 =>
      cases e2
      exact fun v H2 s2 r2 => q v H2 s2 r2
    | bk _ => cases e2
    | ct _ => cases e2
end LY
set_option Elab.async false
set_option linter.all false
set_option maxRecDepth 100000
set_option maxHeartbeats 1000000
/-! LY9: methods of owned lists, dicts -/
namespace LY
open PySem PySem.Spec PyProof.Rows L2
/-- slot i owns a list -/
def oLst (i : Nat) (ρ : Rho) : Option (List D) := match ρ[i]? with
  | some (some (.o (.lst ds))) => some ds
  | _ => none
theorem oLst_some {i : Nat} {ρ : Rho} {ds : List D} (h : oLst i ρ = some ds) : ρ[i]? = some (some (.o (.lst ds))) := by
  unfold oLst at h
  split at h
  · cases h; assumption
  · cases h
def oDic (i : Nat) (ρ : Rho) : Option (List (Key × D)) := match ρ[i]? with
  | some (some (.o (.dic ds))) => some ds
  | _ => none
theorem oDic_some {i : Nat} {ρ : Rho} {ds : List (Key × D)} (h : oDic i ρ = some ds) : ρ[i]? = some (some (.o (.dic ds))) := by
  unfold oDic at h
  split at h
  · cases h; assumption
  · cases h
def rExtendL : V → List V → Hp → VK → Prop := fun x vs H Q => ∃ l b xs zs, x = .ref l ∧ vs = [.ref b] ∧ H l = some (.lst xs) ∧ LstS H b zs ∧ xs.length + zs.length ≤ sizeLine ∧ Q .non (upd H l (.lst (xs ++ zs)))
theorem mt_extendL {X : Cx} : MtR X "list.extend" rExtendL := by
  intro pins s σ H x vs v us Q I rx rv h
  obtain ⟨l, b, xs, zs, rfl, rfl, hH, hB, hz, q⟩ := h
  cases rx
  obtain ⟨u, rfl, ru⟩ := rv.one
  cases ru
  obtain ⟨z, its, n, r, hl, e⟩ := I.lstM hH
  obtain ⟨z2, its2, n2, r2, e2⟩ := (show ObjOk X.prog X.w H s.heap b (.lst zs) from rd_of I.hok hB)
  have hl2 := r2.length
  have hsz : its.toArray.size + its2.toArray.size ≤ sizeLine := by rw [List.size_toArray, List.size_toArray]; omega
  have hlong : ¬ (!its.toArray.isEmpty && Builtin.List.listTooLong (its.toArray.size + its2.toArray.size)) = true := by
    rw [notLongL hsz, Bool.and_false]
    exact Bool.false_ne_true
  refine call_meets F.slot_list_extend ⟨_, e, rfl⟩ F.entry_list_extend (F.args_list_extend_2 _ _)
    (AutoSeq1.list_extend_list_list_0 l its.toArray n b its2.toArray n2 hlong (by rw [List.size_toArray]; omega) (by omega)) ⟨e, e2, ?_⟩
  refine ⟨.non, _, I.lset (its' := its ++ its2) hH e (by simp) (r.append r2) ?_, rfl, q⟩
  rw [List.length_append]
  omega
def fAppend (i : Nat) (g : Den) : Rho → Option Out := fun ρ => (g ρ).bind fun d => (oLst i ρ).bind fun ds => if ds.length ≤ 1000000 then some (.nx (ρ.set i (some (.o (.lst (ds ++ [d])))))) else none
def fExtend (i : Nat) (g : Den) : Rho → Option Out := fun ρ => (g ρ).bind fun d => (oLst i ρ).bind fun ds => match d with
  | .lst es => if ds.length + es.length ≤ 1000000 then some (.nx (ρ.set i (some (.o (.lst (ds ++ es)))))) else none
  | _ => none
section
variable {X : Cx}
theorem s_append {i : Nat} {x : Str} {p ap cp pos : Pos} {e : Expr} {g : Den} (hN : X.N[i]? = some x) (hv : Vis X.env.scope x) (he : QE X e g)
    (hd : (x == ("__debug__" : Str)) = false := by decide) (hcd : (x == ("__classdict__" : Str)) = false := by decide)
    (hbase : attributeBase (.Name x p) "append" X.env (eval (.Name x p) X.env) = eval (.Name x p) X.env := by rfl)
    (hfew : ((backTo cp (starEach [e] X.env)).all (fun x => !x.1) && (backToKw cp (keywordEach [] X.env)).all (fun x => x.1.isSome)
      && decide (([e] : List Expr).length + ([] : List Keyword).length + (if ([] : List Keyword).isEmpty then 0 else 1) < 30)) = true := by rfl)
    (hline : (ap.endLine == cp.line) = true := by rfl) (hs : starEach [e] X.env = (false, eval e X.env) :: starEach [] X.env := by rfl)
    (hsw : swapsWith (.Call (.Attribute (.Name x p) "append" ap) [e] [] cp) none pos.line X.env = pure false := by rfl) :
    QS X (.Expr (.Call (.Attribute (.Name x p) "append" ap) [e] [] cp) pos) (fAppend i g) :=
  (ps_expr (pe_bm PySem.F.plainAttrs_list PySem.F.slot_list_append PySem.F.type_list_append mt_append (pe_var hN hv hd hcd) (ql_cons he ql_nil hs) hbase hfew hline hs (by rfl)) hsw).imp fun E σ H ⟨H0, B, A, ρ, o, S, q, k⟩ => by
    obtain ⟨d, e1, e2⟩ := bind1 q
    obtain ⟨ds, e3, e4⟩ := bind1 e2
    split at e4
    · rename_i hl
      cases e4
      have e5 := oLst_some e3
      obtain ⟨a, h1, aA, vs, h2, h3⟩ := S.sl i _ e5
      refine ⟨.ref a, h1, .inl ⟨rfl, vs, SqL.of h2⟩, H0, B, A, ρ, [d], S, by simp [dCons, dNil, e1], fun us H1 s1 r1 => ?_⟩
      obtain ⟨v, rr, rfl, r2, r3⟩ := r1
      rw [show rr = [] from r3]
      refine ⟨a, vs, v, rfl, rfl, s1 _ _ h2, by rw [h3.length, sizeLine_eq]; omega, ?_⟩
      have sx : SameX A H1 (upd H1 a (.lst (vs ++ [v]))) := fun b o n e => by
        rw [upd_ne fun z : b = a => n (by rw [z]; exact aA)]
        exact e
      obtain ⟨t, S'⟩ := (S.ext s1).own_upd (d' := .lst (ds ++ [d])) (u := .lst (vs ++ [v])) e5 h1 rfl ⟨_, upd_same, ((h3.ext s1.x).append (.one r2)).ext sx⟩
      exact k A σ _ ((Step.of s1).trans t) S'
    · cases e4
theorem s_extend {i : Nat} {x : Str} {p ap cp pos : Pos} {e : Expr} {g : Den} (hN : X.N[i]? = some x) (hv : Vis X.env.scope x) (he : QV X e g)
    (hd : (x == ("__debug__" : Str)) = false := by decide) (hcd : (x == ("__classdict__" : Str)) = false := by decide)
    (hbase : attributeBase (.Name x p) "extend" X.env (eval (.Name x p) X.env) = eval (.Name x p) X.env := by rfl)
    (hfew : ((backTo cp (starEach [e] X.env)).all (fun x => !x.1) && (backToKw cp (keywordEach [] X.env)).all (fun x => x.1.isSome)
      && decide (([e] : List Expr).length + ([] : List Keyword).length + (if ([] : List Keyword).isEmpty then 0 else 1) < 30)) = true := by rfl)
    (hline : (ap.endLine == cp.line) = true := by rfl) (hs : starEach [e] X.env = (false, eval e X.env) :: starEach [] X.env := by rfl)
    (hsw : swapsWith (.Call (.Attribute (.Name x p) "extend" ap) [e] [] cp) none pos.line X.env = pure false := by rfl) :
    QS X (.Expr (.Call (.Attribute (.Name x p) "extend" ap) [e] [] cp) pos) (fExtend i g) :=
  (ps_expr (pe_bm PySem.F.plainAttrs_list PySem.F.slot_list_extend PySem.F.type_list_extend mt_extendL (pe_var hN hv hd hcd) (qlv_one he hs) hbase hfew hline hs (by rfl)) hsw).imp fun E σ H ⟨H0, B, A, ρ, o, S, q, k⟩ => by
    obtain ⟨d, e1, e2⟩ := bind1 q
    obtain ⟨ds, e3, e4⟩ := bind1 e2
    split at e4
    · split at e4
      · rename_i es hl
        cases e4
        have e5 := oLst_some e3
        obtain ⟨a, h1, aA, vs, h2, h3⟩ := S.sl i _ e5
        refine ⟨.ref a, h1, .inl ⟨rfl, vs, SqL.of h2⟩, H0, B, A, ρ, [.lst es], S, by simp [dCons, dNil, e1], fun us H1 s1 r1 => ?_⟩
        obtain ⟨v, rr, rfl, r2, r3⟩ := r1
        rw [show rr = [] from r3]
        obtain ⟨b, ws, rfl, hb, rb⟩ := r2.lst
        refine ⟨a, b, vs, ws, rfl, rfl, s1 _ _ h2, hb, by rw [h3.length, rb.length, sizeLine_eq]; omega, ?_⟩
        have sx : SameX A H1 (upd H1 a (.lst (vs ++ ws))) := fun b o n e => by
          rw [upd_ne fun z : b = a => n (by rw [z]; exact aA)]
          exact e
        obtain ⟨t, S'⟩ := (S.ext s1).own_upd (d' := .lst (ds ++ es)) (u := .lst (vs ++ ws)) e5 h1 rfl ⟨_, upd_same, ((h3.ext s1.x).append rb).ext sx⟩
        exact k A σ _ ((Step.of s1).trans t) S'
      · cases e4
    · cases e4
/-! ### dicts -/
/-- d[k] = x -/
def putD (kvs : List (Key × D)) (k : Key) (d : D) : List (Key × D) :=
  if (kvs.any fun kv => decide (kv.1 = k)) = true then kvs.map (fun kv => if kv.1 = k then (kv.1, d) else kv) else kvs ++ [(k, d)]
theorem RpK.append {A : List Addr} {H : Hp} : ∀ {ds es : List (Key × D)} {vs us : List (Key × V)}, RpK A H ds vs → RpK A H es us → RpK A H (ds ++ es) (vs ++ us)
  | [], _, _, _, h, g => by rw [show _ = [] from h]; exact g
  | (j, x) :: ds, _, _, _, h, g => by
    obtain ⟨v, r, rfl, h1, h2⟩ := h
    exact ⟨v, r ++ _, rfl, h1, h2.append g⟩
theorem RpK.length {A : List Addr} {H : Hp} : ∀ {ds : List (Key × D)} {vs : List (Key × V)}, RpK A H ds vs → vs.length = ds.length
  | [], _, h => by rw [show _ = [] from h]; rfl
  | (j, d) :: ds, _, h => by
    obtain ⟨v, r, e, h1, h2⟩ := h
    rw [e, List.length_cons, List.length_cons, h2.length]
theorem RpK.any {A : List Addr} {H : Hp} {k : Key} : ∀ {ds : List (Key × D)} {vs : List (Key × V)}, RpK A H ds vs → (vs.any fun kv => decide (kv.1 = k)) = (ds.any fun kv => decide (kv.1 = k))
  | [], _, h => by rw [show _ = [] from h]; rfl
  | (j, d) :: ds, _, h => by
    obtain ⟨v, r, rfl, h1, h2⟩ := h
    rw [List.any_cons, List.any_cons, h2.any]
theorem RpK.mapk {A : List Addr} {H : Hp} {k : Key} {d : D} {v : V} (hd : Rp A H d v) : ∀ {ds : List (Key × D)} {vs : List (Key × V)}, RpK A H ds vs →
    RpK A H (ds.map fun kv => if kv.1 = k then (kv.1, d) else kv) (vs.map fun kv => if kv.1 = k then (kv.1, v) else kv)
  | [], _, h => by rw [show _ = [] from h]; rfl
  | (j, x) :: ds, _, h => by
    obtain ⟨w, r, rfl, h1, h2⟩ := h
    rw [List.map_cons, List.map_cons]
    by_cases e : j = k
    · simp only [e, if_true]
      exact ⟨v, _, rfl, hd, h2.mapk hd⟩
    · simp only [e, if_false]
      exact ⟨w, _, rfl, h1, h2.mapk hd⟩
theorem RpK.put {A : List Addr} {H : Hp} {k : Key} {d : D} {v : V} {ds : List (Key × D)} {vs : List (Key × V)} (h : RpK A H ds vs) (hd : Rp A H d v) : RpK A H (putD ds k d) (putK vs k v) := by
  unfold putD putK
  rw [h.any]
  split
  · exact h.mapk hd
  · exact h.append ⟨v, [], rfl, hd, rfl⟩
def mergeD (kvs more : List (Key × D)) : List (Key × D) := more.foldl (fun acc kv => putD acc kv.1 kv.2) kvs
theorem RpK.merge {A : List Addr} {H : Hp} : ∀ {es : List (Key × D)} {us : List (Key × V)} {ds : List (Key × D)} {vs : List (Key × V)}, RpK A H es us → RpK A H ds vs → RpK A H (mergeD ds es) (mergeK vs us)
  | [], _, _, _, h, g => by rw [show _ = [] from h]; exact g
  | (j, x) :: es, _, ds, vs, h, g => by
    obtain ⟨w, r, rfl, h1, h2⟩ := h
    exact h2.merge (g.put h1)
theorem Vw.key {A : List Addr} {H : Hp} {d : D} {v : V} {k : Key} (r : Vw A H d v) (e : keyOf d = some k) : v = kV k := by
  cases d with
  | str t => cases e; exact r.str
  | int t => cases e; exact r.int
  | _ => cases e
def fDPut (i : Nat) (gk gv : Den) : Rho → Option Out := fun ρ => (gv ρ).bind fun d => (gk ρ).bind fun kd => (keyOf kd).bind fun k => (oDic i ρ).bind fun kvs => if kvs.length ≤ 1000000 then some (.nx (ρ.set i (some (.o (.dic (putD kvs k d)))))) else none
theorem s_dput {i : Nat} {x : Str} {p pos pos' : Pos} {ek e : Expr} {gk g : Den} (hu : X.A.units + 1 < cLine) (hN : X.N[i]? = some x) (hv : Vis X.env.scope x) (hk : QV X ek gk) (he : QE X e g)
    (hs : swapsWith e (some (.Subscript (.Name x p) ek pos')) pos.line X.env = pure false := by rfl)
    (hd : (x == ("__debug__" : Str)) = false := by decide) (hcd : (x == ("__classdict__" : Str)) = false := by decide) :
    QS X (.Assign [.Subscript (.Name x p) ek pos'] e pos) (fDPut i gk g) :=
  (ps_dput hu (pe_var hN hv hd hcd) hk he hs).imp fun E σ H ⟨H0, B, A, ρ, o, S, q, k⟩ => by
    obtain ⟨d, e1, q⟩ := bind1 q
    obtain ⟨kd, e2, q⟩ := bind1 q
    obtain ⟨kk, e3, q⟩ := bind1 q
    obtain ⟨ds, e4, q⟩ := bind1 q
    split at q
    · rename_i hl
      cases q
      have e5 := oDic_some e4
      refine ⟨H0, B, A, ρ, d, S, e1, fun v H1 s1 r1 => ?_⟩
      obtain ⟨a, h1, aA, vs, h2, h3⟩ := S.sl i _ e5
      refine ⟨.ref a, h1, H0, B, A, ρ, kd, S.ext s1, e2, fun w H2 s2 r2 => ?_⟩
      have s12 := s1.trans s2
      refine ⟨a, _, rfl, by rw [r2.key e3]; exact DPut.k (s12 _ _ h2) (by rw [h3.length, sizeLine_eq]; omega), ?_⟩
      have sx : SameX A H2 (upd H2 a (.dK (putK vs kk v))) := fun b o n e => by
        rw [upd_ne fun z : b = a => n (by rw [z]; exact aA)]
        exact e
      obtain ⟨t, S'⟩ := (S.ext s12).own_upd (d' := .dic (putD ds kk d)) (u := .dK (putK vs kk v)) e5 h1 rfl ⟨_, upd_same, ((h3.ext s12.x).put (r1.ext s2.x)).ext sx⟩
      exact k A σ _ ((Step.of s12).trans t) S'
    · cases q
/-- {} -/
theorem z_dict0 {pos : Pos} : QZ X (.Dict [] [] pos) (fun _ => some (.o (.dic []))) := pe_dnewK.imp fun σ H Q ⟨H0, B, A, ρ, x, S, q, k⟩ => by
  cases q
  intro p hp
  have pA := S.muts.new hp
  refine k (.ref p) (p :: A) _ (Sm.new hp) (fun a ha => ?_) (fun a h => List.mem_cons_of_mem _ h) (S.add (Sm.new hp) hp upd_same rfl) ⟨p, rfl, List.mem_cons_self, fun z => pA (S.sub p z), [], upd_same, rfl⟩ (fun d a _ e => by cases e; exact pA)
  rcases List.mem_cons.mp ha with rfl | ha
  · exact .inr hp
  · exact .inl ha
theorem q_dict0 {pos : Pos} : QE X (.Dict [] [] pos) (dK (.dic [])) := pe_dnewK.imp fun σ H Q ⟨H0, B, A, ρ, x, S, q, k⟩ => by
  cases q
  intro p hp
  exact k (.ref p) _ (Sm.new hp) ⟨p, [], rfl, S.muts.new hp, .inl upd_same, rfl⟩
/-- dict(xs): xs a list of pairs -/
def pairsD : List D → Option (List (Key × D))
  | [] => some []
  | .tup [k, d] :: r => (keyOf k).bind fun k => (pairsD r).bind fun ps => some ((k, d) :: ps)
  | _ => none
theorem pairsD_rp {K : PySem.W.Frag} {A : List Addr} {H : Hp} : ∀ {ds : List D} {vs : List V} {kvs : List (Key × D)}, RpL A H ds vs → pairsD ds = some kvs → ∃ (ps : List Addr) (us : List (Key × V)), vs = ps.map V.ref ∧ Paired (fun p kv => SqT K H p [kV kv.1, kv.2]) ps us ∧ RpK A H kvs us
  | [], vs, kvs, r, e => by
    cases e
    exact ⟨[], [], r, .nil, rfl⟩
  | d :: ds, vs, kvs, r, e => by
    unfold pairsD at e
    split at e
    · cases ‹_ = []›
    · rename_i k d' r' q
      cases q
      obtain ⟨kk, e1, e⟩ := bind1 e
      obtain ⟨ps, e2, e⟩ := bind1 e
      cases e
      obtain ⟨v, rr, rfl, r1, r2⟩ := r
      obtain ⟨a, ws, rfl, _, ha, k1, wr, rfl, rk, d1, wr2, rfl, rd, rn⟩ := r1
      obtain ⟨ps', us, rfl, hp, hr⟩ := pairsD_rp (K := K) r2 e2
      rw [show wr2 = [] from rn, rk.vw.key e1] at ha
      exact ⟨a :: ps', (kk, d1) :: us, rfl, .cons ha.sq hp, d1, us, rfl, rd, hr⟩
    · cases e
def dPairs (g : Den) : Rho → Option (List (Key × D)) := fun ρ => (g ρ).bind fun d => match d with
  | .lst ds => (pairsD ds).bind fun kvs => some (mergeD [] kvs)
  | _ => none
def zDic (g : Rho → Option (List (Key × D))) : DenZ := fun ρ => (g ρ).bind fun d => some (.o (.dic d))
def dDic (g : Rho → Option (List (Key × D))) : Den := fun ρ => (g ρ).bind fun d => some (.dic d)
/-- a new dict -/
def tK (g : Rho → Option (List (Key × D))) : TE := fun σ H Q => ∃ H0 B A ρ ds, Sim H0 B A H σ ρ ∧ g ρ = some ds ∧ ∀ p vs H', Sm H H' → H p = none → H' p = some (.dK vs) → RpK (p :: A) H' ds vs → Q (.ref p) H'
abbrev QK (X : Cx) (e : Expr) (g : Rho → Option (List (Key × D))) : Prop := PE X e (tK g)
theorem RpK.addNew {A : List Addr} {H : Hp} {ds : List (Key × D)} {vs : List (Key × V)} {p : Addr} (h : RpK A H ds vs) (hp : H p = none) : RpK (p :: A) H ds vs := h.cut fun a ha => by
  rcases List.mem_cons.mp ha with rfl | ha
  · exact .inr hp
  · exact .inl ha
theorem k_dict {e : Expr} {g : Den} {p pos : Pos} (hc : X.calm = true) (hg : Gl X "dict") (hm : X.mg "dict" = none) (ha : QV X e g) (he : starEach [e] X.env = (false, eval e X.env) :: starEach [] X.env := by rfl) : QK X (.Call (.Name "dict" p) [e] [] pos) (dPairs g) :=
  (pe_callTy (call_dictP hc) hg hm (by decide +kernel) (qlv_one ha he) (by decide) (by decide) he (by rfl)).imp fun σ H Q ⟨H0, B, A, ρ, ds, S, q, k⟩ => by
    obtain ⟨x, e1, q⟩ := bind1 q
    split at q
    · obtain ⟨kvs, e2, q⟩ := bind1 q
      cases q
      refine ⟨H0, B, A, ρ, [_], S, by simp [dCons, dNil, e1]; rfl, fun us H1 s1 r1 => ?_⟩
      obtain ⟨v, rr, rfl, r2, r3⟩ := r1
      rw [show rr = [] from r3]
      obtain ⟨a, vs, rfl, hl, r⟩ := r2.lst
      obtain ⟨ps, ws, rfl, hp, hr⟩ := pairsD_rp (K := X.K) r e2
      refine ⟨a, ps, ws, rfl, hl.sq, hp, fun p hn => k p _ _ (s1.trans (Sm.new hn)) (s1.none hn) upd_same ?_⟩
      exact ((hr.merge (show RpK A H1 [] [] from rfl)).addNew hn).ext (Sm.new hn).x
    · cases q
theorem QK.e {e : Expr} {g : Rho → Option (List (Key × D))} (h : QK X e g) : QE X e (dDic g) := h.imp fun σ H Q ⟨H0, B, A, ρ, d, S, q, k⟩ => by
  obtain ⟨ds, e1, e2⟩ := bind1 q
  cases e2
  exact ⟨H0, B, A, ρ, ds, S, e1, fun p vs H' s n e r => k _ H' s ⟨p, vs, rfl, S.muts.new n, .inl e, r.cut fun a ha => .inl (List.mem_cons_of_mem _ ha)⟩⟩
theorem QK.z {e : Expr} {g : Rho → Option (List (Key × D))} (h : QK X e g) : QZ X e (zDic g) := h.imp fun σ H Q ⟨H0, B, A, ρ, x, S, q, k⟩ => by
  obtain ⟨d, e1, e2⟩ := bind1 q
  cases e2
  refine ⟨H0, B, A, ρ, d, S, e1, fun p vs H' s hp h1 r => ?_⟩
  have pA := S.muts.new hp
  refine k (.ref p) (p :: A) H' s (fun a ha => ?_) (fun a h => List.mem_cons_of_mem _ h) (S.add s hp h1 rfl) ⟨p, rfl, List.mem_cons_self, fun z => pA (S.sub p z), vs, h1, r⟩ (fun d a _ e => by cases e; exact pA)
  rcases List.mem_cons.mp ha with rfl | ha
  · exact .inr hp
  · exact .inl ha
end
end LY
set_option Elab.async false
set_option linter.all false
set_option maxRecDepth 100000
set_option maxHeartbeats 1000000
/-! LY10: attributes, own classes, index, join, split, new lists, keyword calls -/
namespace LY
open PySem PySem.Spec PyProof.Rows L2
/-! ### properties -/
def fldD (C : Addr) (fld : Str) (d : D) : Option D := match d with
  | .ins C' fs => if C' = C then fs.lookup fld else none
  | _ => none
theorem RpF.lookup {A : List Addr} {H : Hp} {f : Str} : ∀ {fs : List (Str × D)} {vs : List (Str × V)} {d : D}, RpF A H fs vs → fs.lookup f = some d → ∃ v, vs.lookup f = some v ∧ Rp A H d v
  | [], _, _, _, e => by cases e
  | (k, x) :: fs, _, d, h, e => by
    obtain ⟨v, r, rfl, h1, h2⟩ := h
    rw [List.lookup_cons] at e ⊢
    cases q : f == k with
    | true => rw [q] at e; cases e; exact ⟨v, rfl, h1⟩
    | false => rw [q] at e; exact RpF.lookup h2 e
structure Prp (P : Program) (w : World) (K : PySem.W.Frag) (mg : Str → Option Value) (base : Heap) (k : Nat) (C : Addr) (x fld : Str) : Prop where
  ex : ∃ (p g : Addr) (fd : FuncData) (ps : List Str), Cls K C ∧ PropOf K C x p g ∧ FnOk P w K mg base L2.CX0 k g fd ps (getSp C fld) ∧ Binds K fd ps []
theorem Vw.ins {A : List Addr} {H : Hp} {v : V} {C : Addr} {fs : List (Str × D)} (h : Vw A H (.ins C fs) v) : ∃ a dx vs, v = .ref a ∧ a ∉ A ∧ H a = some (.ins C dx vs) ∧ RpF A H fs vs := by
  rcases h with ⟨a, dx, vs, rfl, n, q, r⟩ | ⟨a, rfl, q⟩
  · exact ⟨a, dx, vs, rfl, n, q, r⟩
  · exact q.elim
section
variable {X : Cx}
theorem q_prop {k : Nat} {C : Addr} {x fld : Str} {e : Expr} {g : Den} {pos : Pos} (G : Prp X.prog X.w X.K X.mg X.base k C x fld) (hr : Room (k + 1) X.A) (he : QV X e g) (hab : attributeBase e x X.env (eval e X.env) = eval e X.env := by rfl) :
    QE X (.Attribute e x pos) (d1 (fldD C fld) g) := by
  obtain ⟨p, gg, fd, ps, h1, h2, h3, h4⟩ := G.ex
  refine (pe_prop he h1 h2 h3 hr h4 .nil (pass0 (X := X.nox)) hab).imp fun σ H Q ⟨H0, B, A, ρ, d, S, q, k⟩ => ?_
  obtain ⟨y, e1, e2⟩ := bind1 q
  refine ⟨H0, B, A, ρ, y, S, e1, fun v H1 s1 r1 => ?_⟩
  unfold fldD at e2
  split at e2
  · split at e2
    · rename_i hC
      subst hC
      obtain ⟨a, dx, vs, rfl, na, ha, rf⟩ := r1.ins
      obtain ⟨u, e3, r3⟩ := rf.lookup e2
      exact ⟨a, dx, vs, rfl, ha, a, dx, vs, u, rfl, ha, e3, k u H1 s1 r3⟩
    · cases e2
  · cases e2
/-- isinstance(x, C), C an own class -/
structure IsCls (K : PySem.W.Frag) (C : Addr) : Prop where
  self : C8.InsC K C
  non : PySem.W.kitOne K (.type "NoneType") (.ref C) = some false
  bl : PySem.W.kitOne K (.type "bool") (.ref C) = some false
  int : PySem.W.kitOne K (.type "int") (.ref C) = some false
  str : PySem.W.kitOne K (.type "str") (.ref C) = some false
  tup : PySem.W.kitOne K (.type "tuple") (.ref C) = some false
  lst : PySem.W.kitOne K (.type "list") (.ref C) = some false
  dic : PySem.W.kitOne K (.type "dict") (.ref C) = some false
def fIsC (C : Addr) (d : D) : Option D := match d with
  | .ins C' _ => if C' = C then some (.bl true) else none
  | d => d.tyS.map fun _ => .bl false
theorem IsCls.ty {K : PySem.W.Frag} {C : Addr} (c : IsCls K C) {d : D} {t : String} (h : d.tyS = some t) : PySem.W.kitOne K (.type t) (.ref C) = some false := by
  cases d with
  | non => cases h; exact c.non
  | bl _ => cases h; exact c.bl
  | int _ => cases h; exact c.int
  | str _ => cases h; exact c.str
  | tup _ => cases h; exact c.tup
  | lst _ => cases h; exact c.lst
  | dic _ => cases h; exact c.dic
  | _ => cases h
theorem b2l_isC {K : PySem.W.Frag} {C : Addr} (c : IsCls K C) : ∀ (A : List Addr) (H : Hp) (x : D) (v : V) (Q : VK) (d : D), Vw A H x v → fIsC C x = some d → (∀ u H', Sm H H' → Rp A H' d u → Q u H') → rIsi K [v, .ref C] H Q := by
  intro A H x v Q d rx e k
  unfold fIsC at e
  split at e
  · split at e
    · rename_i hC
      subst hC
      cases e
      obtain ⟨a, dx, vs, rfl, na, ha, rf⟩ := rx.ins
      exact ⟨_, .ref _, .ref _, .ref _, true, rfl, .own _, .base (.ins ha c.self.cl c.self.ha c.self.hn c.self.htk c.self.hm), c.self.me, k _ H (Sm.refl H) rfl⟩
    · cases e
  · rw [Option.map_eq_some_iff] at e
    obtain ⟨t, e1, rfl⟩ := e
    exact ⟨v, .ref C, .type t, .ref C, false, rfl, .own C, rx.tyx e1, c.ty e1, k _ H (Sm.refl H) rfl⟩
theorem q_isC {C : Addr} {x : Str} {p p2 pos : Pos} {e : Expr} {g : Den} (c : IsCls X.K C) (hg : Gl X "isinstance") (hm : X.mg "isinstance" = none) (hgT : Gl X x) (hmT : X.mg x = some (.ref C)) (ha : QV X e g)
    (hdb : (x == ("__debug__" : Str)) = false := by decide) (he : starEach [e, .Name x p2] X.env = (false, eval e X.env) :: starEach [.Name x p2] X.env := by rfl)
    (he' : starEach [.Name x p2] X.env = (false, eval (.Name x p2) X.env) :: starEach [] X.env := by rfl)
    (hpl : (backTo pos (starEach [.Name x p2] X.env)).any (·.1) = false := by rfl) : QE X (.Call (.Name "isinstance" p) [e, .Name x p2] [] pos) (d1 (fIsC C) g) :=
  (pe_callB call_isi hg hm (by decide +kernel) (pa_cons ha (pa_cons (pe_glob (v := .ref C) hgT hmT rfl hdb) pa_nil he') he) (by decide) (by decide) he hpl).imp fun σ H Q ⟨H0, B, A, ρ, d, S, q, k⟩ => by
    obtain ⟨x, e1, e2⟩ := bind1 q
    exact ⟨H0, B, A, ρ, x, S, e1, fun v H1 s1 r1 => b2l_isC c A H1 x v Q d r1 e2 fun u H2 s2 r2 => k u H2 (s1.trans s2) r2⟩
/-! ### index -/
def idxD (x : D) : List D → Option Nat
  | [] => none
  | d :: ds => if D.eqv d x = true then some 0 else (idxD x ds).map (· + 1)
theorem idxD_some {x : D} : ∀ {ds : List D} {j : Nat}, idxD x ds = some j → (∃ z, ds[j]? = some z ∧ D.eqv z x = true) ∧ ∀ (m : Nat) (z : D), m < j → ds[m]? = some z → D.eqv z x = false
  | [], _, h => by cases h
  | d :: ds, j, h => by
    unfold idxD at h
    by_cases e : D.eqv d x = true
    · rw [if_pos e] at h
      cases h
      exact ⟨⟨d, rfl, e⟩, fun m z hm => by omega⟩
    · rw [if_neg e, Option.map_eq_some_iff] at h
      obtain ⟨i, h1, rfl⟩ := h
      obtain ⟨⟨z, h2, h3⟩, h4⟩ := idxD_some h1
      refine ⟨⟨z, by rw [List.getElem?_cons_succ]; exact h2, h3⟩, fun m z hm hz => ?_⟩
      cases m with
      | zero => rw [List.getElem?_cons_zero] at hz; cases hz; exact eq_false_of_ne_true e
      | succ m => rw [List.getElem?_cons_succ] at hz; exact h4 m z (by omega) hz
def fIndex (x y : D) : Option D := match x with
  | .lst ds => if (y.ok 59 && ds.all (D.ok 59)) = true then (idxD y ds).map fun j => .int (j : Nat) else none
  | .tup ds => (match y with
    | .str _ => if (strsD ds).isSome = true then (idxD y ds).map fun j => .int (j : Nat) else none
    | _ => none)
  | _ => none
theorem D.ok_mono {n : Nat} : ∀ {d : D}, d.ok n = true → d.ok (n + 1) = true := by
  induction n with
  | zero => intro d h; cases d <;> first | (simp [D.ok] at h; done) | simpa [D.ok] using h
  | succ n ih =>
    intro d h
    cases d with
    | tup ds =>
      rw [D.ok, List.all_eq_true] at h ⊢
      exact fun x hx => ih (h x hx)
    | lst ds =>
      rw [D.ok, List.all_eq_true] at h ⊢
      exact fun x hx => ih (h x hx)
    | _ => simpa [D.ok] using h
def rIndexAll (K : PySem.W.Frag) : V → List V → Hp → VK → Prop := fun x xs H Q => rIndexD K x xs H Q ∨ (∃ p, ∃ ys : List Str, ∃ z j, x = .ref p ∧ xs = [.str z] ∧ SqT K H p (ys.map V.str) ∧ ys[j]? = some z ∧ (∀ m, m < j → ys[m]? ≠ some z) ∧ Q (.int (j : Nat)) H)
/-- a method of a tuple that is known to have no dict -/
def tBMT (r : V → List V → Hp → VK → Prop) (to : TE) (t : TA) : TE := fun σ H Q => to σ H fun x H1 => (∃ a vs, x = .ref a ∧ TupS H1 a vs) ∧ t σ H1 fun xs H2 => r x xs H2 Q
theorem pe_bmT {o e : Expr} {es : List Expr} {to : TE} {t : TA} {name : Str} {apos cpos : Pos} {id : String} {r : V → List V → Hp → VK → Prop} (slot : Slot "tuple" name id) (hty : typeOf (.builtin id) = pure (.type "method_descriptor")) (hm : MtR X id r) (ho : PE X o to) (ha : PA X (e :: es) t)
    (hbase : attributeBase o name X.env (eval o X.env) = eval o X.env := by rfl)
    (hfew : ((backTo cpos (starEach (e :: es) X.env)).all (fun x => !x.1) && (backToKw cpos (keywordEach [] X.env)).all (fun x => x.1.isSome)
      && decide ((e :: es).length + ([] : List Keyword).length + (if ([] : List Keyword).isEmpty then 0 else 1) < 30)) = true := by rfl)
    (hline : (apos.endLine == cpos.line) = true := by rfl) (hs : starEach (e :: es) X.env = (false, eval e X.env) :: starEach es X.env := by rfl) (hplain : (backTo cpos (starEach es X.env)).any (·.1) = false := by rfl) :
    PE X (.Call (.Attribute o name apos) (e :: es) [] cpos) (tBMT r to t) := by
  refine ⟨fun pins s σ H Q I h => ?_⟩
  refine wpAny_Call_method_late hbase hfew hline rfl (thn (ho.run pins s σ H _ I h) fun v s1 ⟨x, H1, I1, r1, ty, q1⟩ => ?_)
  obtain ⟨a, vs, rfl, ob, hO, hd⟩ := ty
  cases r1
  obtain ⟨g1, _, its, _, o', g2, g3, _⟩ := (show ObjOk X.prog X.w H1 s1.heap a (.frz ob (.tup vs)) from I1.hok a _ hO)
  rw [g1] at g2; cases g2
  refine ⟨"tuple", id, PySem.F.plainAttrs_tuple, slot, hty, ⟨_, g1, g3⟩, fun b e => by cases e; exact ⟨_, g1, hd⟩, ?_⟩
  have hA := ha.run cpos pins s1 σ H1 _ I1 q1
  rw [hs] at hA ⊢
  refine Calls.callWith_builtin (by show (false || (backTo cpos (starEach es X.env)).any (·.1)) = false; rw [hplain] <;> rfl) (Calls.evalArgs_plain ?_)
  exact thn hA fun us s2 ⟨vs, H2, I2, r2, q2⟩ => hm pins s2 σ H2 (.ref a) vs (.ref a) us Q I2 rfl r2 q2
theorem q_index {o e : Expr} {ap cp : Pos} {g h : Den} (hu : X.A.units + 65 < cLine) (ho : QV X o g) (he : QV X e h)
    (hbase : attributeBase o "index" X.env (eval o X.env) = eval o X.env := by rfl)
    (hfew : ((backTo cp (starEach [e] X.env)).all (fun x => !x.1) && (backToKw cp (keywordEach [] X.env)).all (fun x => x.1.isSome)
      && decide (([e] : List Expr).length + ([] : List Keyword).length + (if ([] : List Keyword).isEmpty then 0 else 1) < 30)) = true := by rfl)
    (hline : (ap.endLine == cp.line) = true := by rfl) (hs : starEach [e] X.env = (false, eval e X.env) :: starEach [] X.env := by rfl) :
    QE X (.Call (.Attribute o "index" ap) [e] [] cp) (d2 fIndex g h) :=
  ((pe_bm PySem.F.plainAttrs_list PySem.F.slot_list_index PySem.F.type_list_index (mt_indexD hu) ho (qlv_one he hs) hbase hfew hline hs (by rfl)).or
    (pe_bmT PySem.F.slot_tuple_index PySem.F.type_tuple_index mt_tup_index ho (qlv_one he hs) hbase hfew hline hs (by rfl))).imp fun σ H Q ⟨H0, B, A, ρ, d, S, q, k⟩ => by
    obtain ⟨x, y, e1, e2, e3⟩ := bind2 q
    unfold fIndex at e3
    split at e3
    · split at e3
      · rename_i ds hok
        rw [Option.map_eq_some_iff] at e3
        obtain ⟨j, e3, rfl⟩ := e3
        rw [Bool.and_eq_true] at hok
        refine .inl ⟨H0, B, A, ρ, _, S, e1, fun v H1 s1 r1 => ?_⟩
        obtain ⟨a, vs, rfl, ha, r⟩ := r1.lst
        refine ⟨.inl ⟨rfl, vs, ha.sq⟩, H0, B, A, ρ, [y], S.ext s1, by simp [dCons, dNil, e2], fun us H2 s2 r2 => ?_⟩
        obtain ⟨u, rr, rfl, r3, r4⟩ := r2
        rw [show rr = [] from r4]
        obtain ⟨⟨z, z1, z2⟩, z3⟩ := idxD_some e3
        have okL : (D.lst ds).ok 60 = true := by rw [D.ok]; exact hok.2
        have dl : Dp X.K H2 (.ref a) (D.lst ds).py := Vw.dp (A := A) okL (r1.ext s2)
        have all_ok : ∀ (m : Nat) (z : D), ds[m]? = some z → z.ok 60 = true := fun m z hm => D.ok_mono (List.all_eq_true.mp hok.2 z (List.mem_of_getElem? hm))
        have oky := D.ok_mono hok.1
        refine ⟨a, u, y.py, D.pys ds, j, z.py, rfl, rfl, by rw [D.py] at dl; exact dl, r3.dp oky, by have := D.shaped okL; rw [D.py] at this; exact this, D.shaped oky, by rw [D.pys_map, List.getElem?_map, z1]; rfl, by rw [D.eqv_py 60 z y (all_ok j z z1) oky]; exact z2, fun m z' hm hz' => ?_, k _ H2 (s1.trans s2) rfl⟩
        rw [D.pys_map, List.getElem?_map] at hz'
        cases hq : ds[m]? with
        | none => rw [hq] at hz'; cases hz'
        | some w =>
          rw [hq] at hz'
          cases hz'
          rw [D.eqv_py 60 w y (all_ok m w hq) oky]
          exact z3 m w hm hq
      · cases e3
    · split at e3
      · split at e3
        · rename_i ds _ z hok
          rw [Option.map_eq_some_iff] at e3
          obtain ⟨j, e3, rfl⟩ := e3
          obtain ⟨ss, hss⟩ := Option.isSome_iff_exists.mp hok
          have hds := strs_map hss
          subst hds
          refine .inr ⟨H0, B, A, ρ, _, S, e1, fun v H1 s1 r1 => ?_⟩
          obtain ⟨a, vs, rfl, na, ha, r⟩ := r1.tup
          refine ⟨⟨a, vs, rfl, ha⟩, H0, B, A, ρ, [.str z], S.ext s1, by simp [dCons, dNil, e2], fun us H2 s2 r2 => ?_⟩
          obtain ⟨u, rr, rfl, r3, r4⟩ := r2
          rw [show rr = [] from r4, r3.str]
          obtain ⟨⟨y, z1, z2⟩, z3⟩ := idxD_some e3
          have ha2 := ha.x (A := []) s2.x (by simp)
          rw [r.strs] at ha2
          refine ⟨a, ss, z, j, rfl, rfl, ha2.sq, ?_, fun m hm hz => ?_, k _ H2 (s1.trans s2) rfl⟩
          · rw [List.getElem?_map] at z1
            cases hq : ss[j]? with
            | none => rw [hq] at z1; cases z1
            | some w =>
              rw [hq] at z1
              cases z1
              rw [D.eqv] at z2
              rw [eq_of_beq z2]
          · have h0 := z3 m (.str z) hm (by rw [List.getElem?_map, hz]; rfl)
            rw [D.eqv] at h0
            simp at h0
        · cases e3
      · cases e3
    · cases e3
end
end LY
set_option Elab.async false
set_option linter.all false
set_option maxRecDepth 100000
set_option maxHeartbeats 1000000
/-! LY11: new lists by +, by slices; join, split; keyword calls; dict.update, list(d.values()), sorted -/
namespace LY
open PySem PySem.Spec PyProof.Rows L2
section
variable {X : Cx}
def dCat (g h : Den) : Rho → Option (List D) := fun ρ => (g ρ).bind fun x => (h ρ).bind fun y => match x, y with
  | .lst i, .lst j => if i.length + j.length ≤ 100000 then some (i ++ j) else none
  | _, _ => none
theorem f_add {a b : Expr} {g h : Den} {pos : Pos} (ha : QV X a g) (hb : QV X b h) : QF X (.BinOp a .Add b pos) (dCat g h) :=
  (pe_op op_catL ha hb).imp fun σ H Q ⟨H0, B, A, ρ, d, S, q, k⟩ => by
    obtain ⟨x, y, e1, e2, e3⟩ := bind2 q
    split at e3
    · split at e3
      · cases e3
        rename_i i j hl
        refine ⟨H0, B, A, ρ, _, S, e1, fun v H1 s1 r1 => ⟨H0, B, A, ρ, _, S.ext s1, e2, fun w H2 s2 r2 => ?_⟩⟩
        obtain ⟨a, vs, rfl, ha, r3⟩ := (r1.ext s2).lst
        obtain ⟨b, ws, rfl, hb, r4⟩ := r2.lst
        have s12 := s1.trans s2
        refine ⟨a, b, vs, ws, rfl, rfl, ha, hb, by rw [r3.length, r4.length, sizeLine_eq]; omega, fun p hp => ?_⟩
        exact k p _ _ (s12.trans (Sm.new hp)) (s12.none hp) upd_same (((r3.append r4).addNew hp).ext (Sm.new hp).x)
      · cases e3
    · cases e3
def dSlF (g : Den) (l h : Rho → Option (Option Int)) : Rho → Option (List D) := fun ρ => (g ρ).bind fun x => (l ρ).bind fun lo => (h ρ).bind fun hi => match x with
  | .lst ds => some (cutD ds lo hi)
  | _ => none
theorem f_slice {e : Expr} {lo hi : Option Expr} {g : Den} {gl gh : Rho → Option (Option Int)} {p2 pos : Pos} (he : QV X e g) (hl : QO X lo gl) (hh : QO X hi gh) : QF X (.Subscript e (.Slice lo hi none p2) pos) (dSlF g gl gh) :=
  (pe_slice sl_list he hl hh).imp fun σ H Q ⟨H0, B, A, ρ, d, S, q, k⟩ => by
    obtain ⟨x, e1, q⟩ := bind1 q
    obtain ⟨l, e2, q⟩ := bind1 q
    obtain ⟨h, e3, q⟩ := bind1 q
    refine ⟨H0, B, A, ρ, x, S, e1, fun v H1 s1 r1 => ⟨H0, B, A, ρ, l, S.ext s1, e2, fun H2 s2 => ⟨H0, B, A, ρ, h, (S.ext s1).ext s2, e3, fun H3 s3 => ?_⟩⟩⟩
    have r3 := (r1.ext s2).ext s3
    have s13 := (s1.trans s2).trans s3
    split at q
    · cases q
      obtain ⟨a, vs, rfl, ha, r⟩ := r3.lst
      exact ⟨a, vs, rfl, ha.sq, fun p hp => k p _ _ (s13.trans (Sm.new hp)) (s13.none hp) upd_same (((r.cutD l h).addNew hp).ext (Sm.new hp).x)⟩
    · cases q
def dRevF (g : Den) : Rho → Option (List D) := fun ρ => (g ρ).bind fun d => match d with
  | .lst ds => some ds.reverse
  | _ => none
theorem f_rev {e : Expr} {g : Den} {k : Nat} {p1 p2 p3 pos : Pos} (he : QV X e g) : QF X (.Subscript e (.Slice none none (some (.UnaryOp .USub (.Constant (.int 1) k p1) p2)) p3) pos) (dRevF g) :=
  (pe_rev he).imp fun σ H Q ⟨H0, B, A, ρ, d, S, q, k⟩ => by
    obtain ⟨x, e1, e2⟩ := bind1 q
    refine ⟨H0, B, A, ρ, x, S, e1, fun v H1 s1 r1 => ?_⟩
    split at e2
    · cases e2
      obtain ⟨a, vs, rfl, ha, r⟩ := r1.lst
      exact ⟨a, vs, rfl, .inl ⟨ha.sq, fun p hp => k p _ _ (s1.trans (Sm.new hp)) (s1.none hp) upd_same ((r.reverse.addNew hp).ext (Sm.new hp).x)⟩⟩
    · cases e2
/-! ### join, split -/
def fJoin (x y : D) : Option D := match x with
  | .str a => y.items.bind fun ds => (strsD ds).bind fun ss => if (ss.map (·.length)).sum + ss.length * a.length ≤ 16777216 then some (.str (Txt.join a ss)) else none
  | _ => none
theorem q_join {o e : Expr} {g h : Den} {apos pos : Pos} (ho : QV X o g) (he : QV X e h) (hs : starEach [e] X.env = [(false, eval e X.env)] := by rfl) (hbase : attributeBase o "join" X.env (eval o X.env) = eval o X.env := by rfl) (hline : (apos.endLine == pos.line) = true := by rfl) :
    QE X (.Call (.Attribute o "join" apos) [e] [] pos) (d2 fJoin g h) :=
  (pe_join ho he hs hbase hline).imp fun σ H Q ⟨H0, B, A, ρ, d, S, q, k⟩ => by
    obtain ⟨x, y, e1, e2, e3⟩ := bind2 q
    unfold fJoin at e3
    split at e3
    · obtain ⟨ds, e4, e3⟩ := bind1 e3
      obtain ⟨ss, e5, e3⟩ := bind1 e3
      split at e3
      · rename_i hl
        cases e3
        refine ⟨H0, B, A, ρ, _, S, e1, fun v H1 s1 r1 => ⟨⟨_, r1.str⟩, H0, B, A, ρ, y, S.ext s1, e2, fun w H2 s2 r2 => ?_⟩⟩
        have hds := strs_map e5
        subst hds
        obtain ⟨p, vs, rfl, hp, r⟩ := r2.items e4
        have hv := r.strs
        subst hv
        refine ⟨_, p, ss, r1.str, rfl, ?_, hl, k _ H2 (s1.trans s2) rfl⟩
        rcases hp with hp | hp
        · exact .inl hp.sq
        · exact .inr hp.sq
      · cases e3
    · cases e3
def dSplit (g h : Den) : Rho → Option (List D) := fun ρ => (g ρ).bind fun x => (h ρ).bind fun y => match x, y with
  | .str a, .str b => if (b.length == 0) = false ∧ a.length ≤ 1000000 then some ((Txt.split a b).map D.str) else none
  | _, _ => none
theorem RpL.of_strs {A : List Addr} {H : Hp} (ss : List Str) : RpL A H (ss.map D.str) (ss.map V.str) := by
  induction ss with
  | nil => rfl
  | cons s ss ih => exact ⟨_, _, rfl, rfl, ih⟩
theorem f_split {o e : Expr} {g h : Den} {apos pos : Pos} (ho : QV X o g) (he : QV X e h) (hs : starEach [e] X.env = [(false, eval e X.env)] := by rfl) (hbase : attributeBase o "split" X.env (eval o X.env) = eval o X.env := by rfl) (hline : (apos.endLine == pos.line) = true := by rfl) :
    QF X (.Call (.Attribute o "split" apos) [e] [] pos) (dSplit g h) :=
  (pe_split ho he hs hbase hline).imp fun σ H Q ⟨H0, B, A, ρ, d, S, q, k⟩ => by
    obtain ⟨x, y, e1, e2, e3⟩ := bind2 q
    split at e3
    · split at e3
      · rename_i hl
        cases e3
        refine ⟨H0, B, A, ρ, _, S, e1, fun v H1 s1 r1 => ⟨⟨_, r1.str⟩, H0, B, A, ρ, _, S.ext s1, e2, fun w H2 s2 r2 => ?_⟩⟩
        refine ⟨_, _, r1.str, by rw [r2.str], hl.1, by rw [sizeLine_eq]; omega, fun p hp => ?_⟩
        exact k p _ _ ((s1.trans s2).trans (Sm.new hp)) ((s1.trans s2).none hp) upd_same (RpL.of_strs _)
      · cases e3
    · cases e3
/-! ### keyword calls -/
theorem pe_callKw0 {CX : CXT} {k : Nat} {f : Addr} {fd : FuncData} {ps ks : List Str} {sp : Sp} {E : XK} {x : Str} {p pos : Pos} {kws : List Keyword} {tk : TA} {g : List Value → List Value → List Value} {gV : List V → List V → List V}
    (F : FnOk X.prog X.w X.K X.mg X.base CX k f fd ps sp) (hr : Room k X.A) (hg : Gl X x) (hm : X.mg x = some (.ref f)) (hk : PySem.W.keepIn X.K (.ref f) = true) (hb : KBinds X.K fd ps ks g gV) (hx : Passes CX X E)
    (hkw : PK X kws tk) (hall : (backToKw pos (keywordEach kws X.env)).all (·.1.isSome) = true := by rfl) (hks : (backToKw pos (keywordEach kws X.env)).filterMap (·.1) = ks := by rfl)
    (hdb : (x == ("__debug__" : Str)) = false := by decide)
    (hpl : ((backTo pos (starEach [] X.env)).any (·.1) || (backToKw pos (keywordEach kws X.env)).any (·.1.isNone)) = false := by rfl) :
    PE X (.Call (.Name x p) [] kws pos) (tCallK sp gV E tNil tk) := by
  refine ⟨fun pins s σ H Q I h => ?_⟩
  refine wpAny_Call_Name_kw (ld_glob I hg hm ?_ hdb)
  refine PySem.W.callWith_KW0 (h₀ := X.base) I.ok.mod.kin hk hall (thn (hkw.run pos pins s σ H _ I h) fun ws s2 ⟨zs, H2, I2, rz, q2⟩ => ⟨I2.kIn, ?_⟩) hpl
  rw [hks]
  exact run_fnk F hr hb hx I2 .nil rz q2
abbrev QKw (X : Cx) (kws : List Keyword) (g : Rho → Option (List D)) : Prop := PK X kws (tL g)
theorem _root_.L2.PK.imp {kws : List Keyword} {t t' : TA} (h : PK X kws t) (w : ∀ σ H Q, t' σ H Q → t σ H Q) : PK X kws t' := ⟨fun pos pins s σ H Q I x => h.run pos pins s σ H Q I (w _ _ _ x)⟩
theorem qk_nil : QKw X [] dNil := pk_nil.imp fun σ H Q ⟨H0, B, A, ρ, ds, S, e, k⟩ => by
  cases e
  exact k [] H (Sm.refl H) rfl
theorem qk_cons {nm : Option Str} {kpos : Pos} {e : Expr} {kws : List Keyword} {g : Den} {h : Rho → Option (List D)} (he : QE X e g) (hr : QKw X kws h) : QKw X (⟨nm, e, kpos⟩ :: kws) (dCons g h) :=
  (pk_cons he hr).imp fun σ H Q ⟨H0, B, A, ρ, ds, S, q, k⟩ => by
    obtain ⟨d, ds', e1, e2, e3⟩ := bind2 q
    cases e3
    exact ⟨H0, B, A, ρ, d, S, e1, fun v H1 s1 r1 => ⟨H0, B, A, ρ, ds', S.ext s1, e2, fun vs H2 s2 r2 => k _ H2 (s1.trans s2) ⟨v, vs, rfl, r1.ext s2.x, r2⟩⟩⟩
/-- a def all of whose parameters may be handed by keyword, in their order -/
structure FnKw (P : Program) (w : World) (K : PySem.W.Frag) (mg : Str → Option Value) (base : Heap) (k : Nat) (x : Str) (ks : List Str) (sp : Sp) : Prop where
  ex : ∃ (f : Addr) (fd : FuncData) (ps : List Str), mg x = some (.ref f) ∧ FnOk P w K mg base CX0 k f fd ps sp ∧ PySem.W.keepIn K (.ref f) = true ∧ KBinds K fd ps ks (fun us ws => us ++ ws) (fun us ws => us ++ ws)
theorem q_callKw {k : Nat} {x : Str} {ks : List Str} {F : List D → Option D} {p pos : Pos} {kws : List Keyword} {g : Rho → Option (List D)} (G : FnKw X.prog X.w X.K X.mg X.base k x ks (spQ F)) (hr : Room k X.A) (hg : Gl X x) (ha : QKw X kws g)
    (hall : (backToKw pos (keywordEach kws X.env)).all (·.1.isSome) = true := by rfl) (hks : (backToKw pos (keywordEach kws X.env)).filterMap (·.1) = ks := by rfl)
    (hdb : (x == ("__debug__" : Str)) = false := by decide)
    (hpl : ((backTo pos (starEach [] X.env)).any (·.1) || (backToKw pos (keywordEach kws X.env)).any (·.1.isNone)) = false := by rfl) :
    QE X (.Call (.Name x p) [] kws pos) (dCall F g) := by
  obtain ⟨f, fd, ps, h1, h2, h3, h4⟩ := G.ex
  refine (pe_callKw0 h2 hr hg h1 h3 h4 pass0 ha hall hks hdb hpl).imp fun σ H Q ⟨H0, B, A, ρ, d, S, q, k⟩ => ?_
  obtain ⟨ds, e1, e2⟩ := bind1 q
  exact ⟨H0, B, A, ρ, ds, S, e1, fun vs H1 s1 r1 => ⟨A, ds, d, S.muts.ext s1, r1, e2, fun v H2 s2 r2 => k v H2 (s1.trans s2) r2⟩⟩
/-! ### d.update(e) -/
def rUpdate : V → List V → Hp → VK → Prop := fun x vs H Q => ∃ a b kvs more, x = .ref a ∧ vs = [.ref b] ∧ a ≠ b ∧ H a = some (.dK kvs) ∧ Rd H b (.dK more) ∧ kvs.length + more.length ≤ sizeLine ∧ Q .non (upd H a (.dK (mergeK kvs more)))
theorem mt_update : MtR X "dict.update" rUpdate := by
  intro pins s σ H x vs v us Q I rx rv h
  obtain ⟨a, b, kvs, more, rfl, rfl, hne, hA, hB, hz, q⟩ := h
  cases rx
  obtain ⟨u, rfl, ru⟩ := vals1 rv
  cases ru
  obtain ⟨z1, hd1, vs1, rel1, dd1⟩ := dk_of I.hok hA
  obtain ⟨z2, hd2, vs2, rel2, dd2⟩ := dk_rd I.hok hB
  refine call_meetsIn PySem.F.slot_dict_update dd1.typeIs PySem.F.entry_dict_update (PySem.F.args_dict_update_2 _ _) (meets_dict_update (mixKind X.prog X.w) a b hne hd2)
    ⟨vs1, vs2, dd1, dd2, by rw [← rel1.length, ← rel2.length]; exact hz, fun h' dd' _ hs => ?_⟩
  have he : ∃ q, h'.get? a = some q := let ⟨q, _, _, hq, _⟩ := dd'; ⟨q, hq⟩
  have hl : (mergeK kvs more).length ≤ sizeLine := Nat.le_trans (length_mergeK more kvs) hz
  exact ⟨.non, _, d_write I (by rw [hA]; exact True.intro) hs he (dk_new hl hd1 (KV.merge rel2 rel1) dd'), rfl, q⟩
def fUpdate (i : Nat) (g : Rho → Option (List (Key × D))) : Rho → Option Out := fun ρ => (g ρ).bind fun es => (oDic i ρ).bind fun ds => if ds.length + es.length ≤ 1000000 then some (.nx (ρ.set i (some (.o (.dic (mergeD ds es)))))) else none
theorem s_update {i : Nat} {x : Str} {p ap cp pos : Pos} {e : Expr} {g : Rho → Option (List (Key × D))} (hN : X.N[i]? = some x) (hv : Vis X.env.scope x) (he : QK X e g)
    (hd : (x == ("__debug__" : Str)) = false := by decide) (hcd : (x == ("__classdict__" : Str)) = false := by decide)
    (hbase : attributeBase (.Name x p) "update" X.env (eval (.Name x p) X.env) = eval (.Name x p) X.env := by rfl)
    (hfew : ((backTo cp (starEach [e] X.env)).all (fun x => !x.1) && (backToKw cp (keywordEach [] X.env)).all (fun x => x.1.isSome)
      && decide (([e] : List Expr).length + ([] : List Keyword).length + (if ([] : List Keyword).isEmpty then 0 else 1) < 30)) = true := by rfl)
    (hline : (ap.endLine == cp.line) = true := by rfl) (hs : starEach [e] X.env = (false, eval e X.env) :: starEach [] X.env := by rfl)
    (hsw : swapsWith (.Call (.Attribute (.Name x p) "update" ap) [e] [] cp) none pos.line X.env = pure false := by rfl) :
    QS X (.Expr (.Call (.Attribute (.Name x p) "update" ap) [e] [] cp) pos) (fUpdate i g) :=
  (ps_expr (pe_bm PySem.F.plainAttrs_dict PySem.F.slot_dict_update PySem.F.type_dict_update mt_update (pe_var hN hv hd hcd) (pa_cons he pa_nil hs) hbase hfew hline hs (by rfl)) hsw).imp fun E σ H ⟨H0, B, A, ρ, o, S, q, k⟩ => by
    obtain ⟨es, e1, e2⟩ := bind1 q
    obtain ⟨ds, e3, e4⟩ := bind1 e2
    split at e4
    · rename_i hl
      cases e4
      have e5 := oDic_some e3
      obtain ⟨a, h1, aA, vs, h2, h3⟩ := S.sl i _ e5
      refine ⟨.ref a, h1, .inr (.inr (.inl ⟨rfl, .inl ⟨vs, h2⟩⟩)), H0, B, A, ρ, es, S, e1, fun p ws H1 s1 hp h1p r1 => ?_⟩
      have hne : a ≠ p := fun z => by rw [z] at h2; rw [h2] at hp; cases hp
      refine ⟨a, p, vs, ws, rfl, rfl, hne, s1 _ _ h2, .inl h1p, by rw [h3.length, r1.length, sizeLine_eq]; omega, ?_⟩
      have sx : SameX A H1 (upd H1 a (.dK (mergeK vs ws))) := fun b o n e => by
        rw [upd_ne fun z : b = a => n (by rw [z]; exact aA)]
        exact e
      have r1' : RpK A H1 es ws := r1.cut fun a ha => .inl (List.mem_cons_of_mem _ ha)
      obtain ⟨t, S'⟩ := (S.ext s1).own_upd (d' := .dic (mergeD ds es)) (u := .dK (mergeK vs ws)) e5 h1 rfl ⟨_, upd_same, (r1'.merge (h3.ext s1.x)).ext sx⟩
      exact k A σ _ ((Step.of s1).trans t) S'
    · cases e4
end
end LY
set_option Elab.async false
set_option linter.all false
set_option maxRecDepth 100000
set_option maxHeartbeats 1000000
/-! LY12: sorted of a list or a tuple that reads as data -/
namespace PySem.W
open PySem PySem.Calls PyProof.Rows
section
variable {prog : Program} {w : World} {A : Around} {E : Value → Shared → Prop} {s : Shared}
/-- collect: as collect_list, of a tuple -/
theorem ly_collect_tuple {l : Addr} {vs : List Value} {Q : List Value → Shared → Prop} (hl : IsTup s.heap l vs.toArray)
    (h : Q vs { s with heap := (s.heap.push (seqObj "list" #[] 0)).update s.heap.objs.size (Obj.mapSeq (· ++ vs.toArray)) }) (hsz : vs.length ≤ sizeLine) :
    wpAny (model prog w) A (collect (.ref l)) Q E s := by
  obtain ⟨o, ho, hc, n, hd⟩ := id hl
  unfold collect
  refine wpAny_bind (wpAny_runValue (codeAny_builtin entry_proto_collect' ?_))
  show wpAny _ _ (do again (.builtin "list.__iadd__" ⟨[← newList [], .ref l], []⟩)) _ _ s
  refine wpAny_bind (wpAny_newList (wpAny_pure ⟨Code.quiet_builtin _ (by decide +kernel), codeAny_builtin entry_list_iadd' ?_⟩))
  show wpAny _ _ (Builtin.List.listExtendWith (.ref s.heap.objs.size) (.ref l) (.ref s.heap.objs.size)) _ _ { s with heap := s.heap.push (seqObj "list" #[] 0) }
  unfold Builtin.List.listExtendWith
  have ho' : (s.heap.push (seqObj "list" #[] 0)).get? l = some o := Heap.get?_push_of_some _ ho
  refine wpAny_bind (wpAny_typeOf (T := "tuple") ⟨o, ho', hc⟩ ?_)
  have ht : (Value.type "tuple" == Value.type "tuple") = true := by rfl
  rw [if_pos (by rw [ht]; simp)]
  refine wpAny_bind (listItems_at ho' hd ?_)
  refine wpAny_bind (listItems_at (xs := #[]) (n := 0) (Heap.get?_push_size _ rfl) rfl ?_)
  rw [if_neg (by simp)]
  refine wpAny_bind (listUpdate_at (xs := #[]) (n := 0) (Heap.get?_push_size _ rfl) rfl ?_ (Nat.zero_le _) (by show (#[] ++ vs.toArray).size ≤ sizeLine + 1; simp only [Array.size_append, List.size_toArray, List.length_nil]; omega))
  refine wpAny_pure ?_
  show wpAny (model prog w) A (do
      let o ← load s.heap.objs.size
      match o.data with
      | .seq xs _ => pure xs.toList
      | _ => unsupported "internal:collect") Q E { s with heap := (s.heap.push (seqObj "list" #[] 0)).update s.heap.objs.size (Obj.mapSeq (· ++ vs.toArray)) }
  refine wpAny_bind (wpAny_load (get?_update_seq (Heap.get?_push_size _ rfl) _) ?_)
  show wpAny _ _ (pure ((#[] : Array Value) ++ vs.toArray).toList) Q E _
  rw [show ((#[] : Array Value) ++ vs.toArray).toList = vs by simp]
  exact wpAny_pure h
theorem ly_sorted_of_sortT {l : Addr} {vs : List Value} {kw : List (Str × Value)} {Q : Value → Shared → Prop} (hl : IsTup s.heap l vs.toArray) (hL : vs.length ≤ sizeLine) (ha1 : argsOk "sorted" ⟨[.ref l], kw⟩) (ha2 : ∀ x, argsOk "list.sort" ⟨[.ref x], kw⟩)
    (body : ∀ E' : Value → Shared → Prop, wpAny (model prog w) A.in1.in1 (Builtin.«list.sort» ⟨[.ref (s.heap.objs.size + 1)], kw⟩) (fun f s' => f = .done (.ret .none) ∧ Q (.ref (s.heap.objs.size + 1)) s') E' { s with heap := copyHeap s.heap vs }) :
    wpAny (model prog w) A (call (.builtin "sorted") [.ref l] kw) Q E s := by
  refine call_function_entry_kw kind_sorted plain_sorted entry_sorted ha1 ?_
  unfold Builtin.«sorted»
  refine wpAny_bind (m := checkCount "sorted" 1 1 _) (wpAny_pure ?_)
  refine wpAny_bind (ly_collect_tuple hl ?_ hL)
  refine wpAny_bind (wpAny_newList ?_ hL)
  have hsz : ((s.heap.push (seqObj "list" #[] 0)).update s.heap.objs.size (Obj.mapSeq (· ++ vs.toArray))).objs.size = s.heap.objs.size + 1 := by
    rw [Heap.size_update, size_push']
  show wpAny _ _ _ _ _ { s with heap := copyHeap s.heap vs }
  rw [hsz]
  refine wpAny_bind (wpAny_holding (wpAny_call_entry_kw slot_list_sort ⟨_, copyHeap_at s.heap vs, rfl⟩ entry_list_sort ?body (ha2 _)))
  case body =>
    show wpAny (model prog w) A.in1.in1 (Builtin.«list.sort» ⟨[.ref (s.heap.objs.size + 1)], kw⟩) _ _ _
    refine wpAny_mono (body _) (fun f s' hf => ?_) fun _ _ e => e
    obtain ⟨rfl, hq⟩ := hf
    exact ⟨_, rfl, wpAny_pure ⟨_, rfl, hq⟩⟩
variable {β : Type} {vs : List Value} {bs : List β} {enc : β → PyData} {R : Value → β → Prop}
theorem ly_sorted_dataT {l : Addr} {Q : Value → Shared → Prop} (hl : IsTup s.heap l vs.toArray) (e : EachIs R vs bs) (er : EachIs (fun v b => ∃ as, Reads s.heap v (enc b) as) vs bs) (hal : AllAlike (bs.map enc)) (hk : Sortable (bs.map enc)) (hL : bs.length ≤ sizeLine)
    (hu : ∀ b, b ∈ bs → A.units + 2 + (enc b).depth < cLine) (h : ∀ out, out.length = bs.length → EachIs R out (bs.mergeSort (dataLe false enc)) → Q (.ref (s.heap.objs.size + 1)) { s with heap := sortedAll s.heap vs (List.toArray out) }) :
    wpAny (model prog w) A (call (.builtin "sorted") [.ref l]) Q E s := by
  have er' : EachIs (fun v b => ∃ as, Reads (sortingHeap (copyHeap s.heap vs) (s.heap.objs.size + 1) vs) v (enc b) as) vs bs := er.mono fun _ _ ⟨as, r⟩ => ⟨as, PyProof.Rows.Reads.keeps (fun _ _ => sorting_copy_old) r⟩
  have S := SortsAt.data (prog := prog) (w := w) (A := A.in1.in1) (s := { s with heap := sortingHeap (copyHeap s.heap vs) (s.heap.objs.size + 1) vs }) (each_map (R := fun v d => ∃ as, Reads (sortingHeap (copyHeap s.heap vs) (s.heap.objs.size + 1) vs) v d as) enc er') hal hk (bound_map hu)
  have hL' : vs.length ≤ sizeLine := by rw [e.length]; exact hL
  exact ly_sorted_of_sortT hl hL' (args_sorted1 _) (fun _ => args_list_sort _) fun _ => list_sort_vals (s := { s with heap := copyHeap s.heap vs }) (copyHeap_at s.heap vs) S hL' ⟨rfl, h _ (by rw [sortVals_length false rfl]; exact e.length) (sortVals_data false e er' hal)⟩
end
end PySem.W
namespace LY
open PySem PySem.Spec PyProof.Rows L2
section
variable {X : Cx}
/-- sorted(xs), xs a list or a tuple of data -/
def rSortD (K : PySem.W.Frag) : List V → Hp → VK → Prop := fun xs H Q => ∃ (a : Addr) (A : List Addr) (vs : List V) (ds : List D), xs = [.ref a] ∧ (SqL K H a vs ∨ SqT K H a vs) ∧ RpL A H ds vs ∧ ds.all (D.ok 59) = true ∧ PySem.W.AllAlike (D.pys ds) ∧ PySem.W.Sortable (D.pys ds) ∧
  ∀ p ws, H p = none → RpL A H (ds.mergeSort (PySem.W.dataLe false D.py)) ws → Q (.ref p) (upd H p (.lst ws))
theorem each_of {A : List Addr} {H : Hp} : ∀ {ds : List D} {vs : List V} {us : List Value}, RpL A H ds vs → Vals vs us → PySem.W.EachIs (fun (u : Value) (d : D) => ∃ x, RelV x u ∧ Rp A H d x) us ds
  | [], _, _, r, v => by
    rw [show _ = [] from r] at v
    cases v
    exact .nil
  | d :: ds, _, _, r, v => by
    obtain ⟨x, r', rfl, h1, h2⟩ := r
    cases v with
    | cons a b => exact .cons ⟨x, a, h1⟩ (each_of h2 b)
theorem of_each {A : List Addr} {H : Hp} : ∀ {ds : List D} {us : List Value}, PySem.W.EachIs (fun (u : Value) (d : D) => ∃ x, RelV x u ∧ Rp A H d x) us ds → ∃ vs, RpL A H ds vs ∧ Vals vs us
  | _, _, .nil => ⟨[], rfl, .nil⟩
  | _, _, .cons ⟨x, h1, h2⟩ t => by
    obtain ⟨vs, h3, h4⟩ := of_each t
    exact ⟨x :: vs, ⟨x, vs, rfl, h2, h3⟩, .cons h1 h4⟩
theorem call_sortD (hu : X.A.units + 65 < cLine) : CallR X (.builtin "sorted") (rSortD X.K) := by
  intro pins s σ H xs us Q I r h
  obtain ⟨a, A, vs, ds, rfl, hs, rp, hok, hal, hk, q⟩ := h
  rw [Vals.ref1 r]
  rw [D.pys_map] at hal hk
  have key : ∀ its : List Value, Vals vs its → its.length ≤ sizeLine → (s.heap.IsList a its.toArray ∨ IsTup s.heap a its.toArray) → wpAny (model X.prog X.w) X.A (call (.builtin "sorted") [.ref a]) (EP X pins σ Q) X.xe s := by
    intro its rv hz hl
    have hlen : its.length = ds.length := by rw [← rv.length, rp.length]
    have e := each_of rp rv
    have er : PySem.W.EachIs (fun (v : Value) (b : D) => ∃ as, Reads s.heap v (D.py b) as) its ds := (PySem.W.each_mem e).mono fun u d ⟨⟨x, h1, h2⟩, hd⟩ => by
      obtain ⟨as, hr⟩ := Dp.reads I d.py x u (Rp.dp 59 d x (List.all_eq_true.mp hok d hd) h2) h1
      exact ⟨as, hr⟩
    have hu' : ∀ b, b ∈ ds → X.A.units + 2 + (D.py b).depth < cLine := fun b hb => by
      have := (D.ok_lay 59 b (List.all_eq_true.mp hok b hb)).2
      omega
    have fin : ∀ out : List Value, out.length = ds.length → PySem.W.EachIs (fun (u : Value) (d : D) => ∃ x, RelV x u ∧ Rp A H d x) out (ds.mergeSort (PySem.W.dataLe false D.py)) → EP X pins σ Q (.ref (s.heap.objs.size + 1)) { s with heap := PyProof.Rows.sortedAll s.heap its (List.toArray out) } := by
      intro out ho eo
      obtain ⟨ws, h1, h2⟩ := of_each eo
      obtain ⟨ep, he'⟩ := PyProof.Rows.sortedAll_at s.heap its out.toArray
      have hln : ws.length ≤ sizeLine := by rw [h2.length, ho, ← hlen]; exact hz
      exact ⟨.ref _, upd H (s.heap.objs.size + 1) (.lst ws), I.laid (t' := s.toks) (fun _ _ => PyProof.Rows.sortedAll_old) (Nat.le_succ _) ⟨hln, out, ep, h2, he'⟩, rfl, q _ _ (I.hok.fresh (Nat.le_succ _)) h1⟩
    rcases hl with hl | hl
    · exact PySem.W.sorted_data hl e er hal hk (by rw [← hlen]; exact hz) hu' fin
    · exact PySem.W.ly_sorted_dataT hl e er hal hk (by rw [← hlen]; exact hz) hu' fin
  rcases hs with hs | hs
  · obtain ⟨its, rv, hl, hz⟩ := I.list hs
    exact key its rv (by rw [← rv.length]; exact hz) (.inl hl.isList)
  · obtain ⟨its, rv, hl, hz⟩ := I.tuple hs
    exact key its rv (by rw [← rv.length]; exact hz) (.inr hl)
open Classical in
noncomputable def fSorted (d : D) : Option (List D) := d.items.bind fun ds => if ds.all (D.ok 59) = true ∧ PySem.W.AllAlike (D.pys ds) ∧ PySem.W.Sortable (D.pys ds) then some (ds.mergeSort (PySem.W.dataLe false D.py)) else none
noncomputable def dSorted (g : Den) : Rho → Option (List D) := fun ρ => (g ρ).bind fSorted
theorem f_sorted {p pos : Pos} {e : Expr} {g : Den} (hu : X.A.units + 65 < cLine) (hg : Gl X "sorted") (hm : X.mg "sorted" = none) (ha : QV X e g) (he : starEach [e] X.env = (false, eval e X.env) :: starEach [] X.env := by rfl) : QF X (.Call (.Name "sorted" p) [e] [] pos) (dSorted g) :=
  (pe_callB (call_sortD hu) hg hm (by decide +kernel) (qlv_one ha he) (by decide) (by decide) he (by rfl)).imp fun σ H Q ⟨H0, B, A, ρ, ds, S, q, k⟩ => by
    obtain ⟨x, e1, e2⟩ := bind1 q
    obtain ⟨xs, e3, e4⟩ := bind1 e2
    split at e4
    · rename_i hc
      cases e4
      refine ⟨H0, B, A, ρ, [x], S, by simp [dCons, dNil, e1], fun vs H1 s1 r1 => ?_⟩
      obtain ⟨v, rr, rfl, r2, r3⟩ := r1
      rw [show rr = [] from r3]
      obtain ⟨a, vs, rfl, ha, r⟩ := r2.items e3
      refine ⟨a, A, vs, xs, rfl, ?_, r, hc.1, hc.2.1, hc.2.2, fun p ws hp hw => k p ws _ (s1.trans (Sm.new hp)) (s1.none hp) upd_same ((hw.addNew hp).ext (Sm.new hp).x)⟩
      rcases ha with ha | ha
      · exact .inl (ha.sq)
      · exact .inr ha.sq
    · cases e4
end
end LY
set_option Elab.async false
set_option linter.all false
set_option maxRecDepth 100000
set_option maxHeartbeats 1000000
/-! LY13: further forms: == with (), is True, chains, three names at once -/
namespace LY
open PySem PySem.Spec PyProof.Rows L2
section
variable {X : Cx}
/-- ==: data, or anything against () -/
def fEqA (x y : D) : Option D := match fEq false x y with
  | some d => some d
  | none => fEqT0 x y
def rEqAll (K : PySem.W.Frag) : R2 := fun x y H Q => rEqD K x y H Q ∨ rEqT0 false K x y H Q
theorem op_eqAll (hu : X.A.units + 65 < cLine) : OpR X (compareOp .Eq) (rEqAll X.K) := (op_eqD (by omega)).or (op_eqT0 (by omega))
theorem b2_eqAll (K : PySem.W.Frag) : B2 (rEqAll K) fEqA := by
  intro A H x y v w Q d m rx ry e k
  unfold fEqA at e
  split at e
  · rename_i d' h
    cases e
    exact .inl (b2_eq K A H x y v w Q _ m rx ry h k)
  · exact .inr (b2_eqT0 K A H x y v w Q d m rx ry e k)
theorem op_neD' (hu : X.A.units + 65 < cLine) : OpR X (compareOp .NotEq) (rNeD X.K) := op_neD (by omega)
def fIsB (neg : Bool) (x y : D) : Option D := match x, y with
  | .bl a, .bl b => some (.bl (neg != decide (a = b)))
  | _, _ => none
theorem b2_isB : B2 rIsB (fIsB false) := by
  intro A H x y v w Q d m rx ry e k
  unfold fIsB at e
  split at e
  · cases e
    rename_i a b
    refine ⟨a, b, rx.bl, ry.bl, ?_⟩
    have e2 : (false != decide (a = b)) = decide (a = b) := by cases decide (a = b) <;> rfl
    rw [e2] at k
    exact k _ H (Sm.refl H) rfl
  · cases e
/-! ### a op b op' c -/
def dChain (F F' : D → D → Option D) (g h l : Den) : Den := fun ρ => (g ρ).bind fun x => (h ρ).bind fun y => (F x y).bind fun r => (dBool r).bind fun b => if b = true then (l ρ).bind fun z => F' y z else some (.bl false)
theorem q_chain {op op' : CmpOp} {r r' : R2} {F F' : D → D → Option D} {a b c : Expr} {g h l : Den} {pos : Pos} (ho : OpR X (compareOp op) r) (ho' : OpR X (compareOp op') r') (b2 : B2 r F) (b2' : B2 r' F') (ha : QV X a g) (hb : QV X b h) (hc : QV X c l)
    (hm : lastMarks [op, op'] [b, c] = false := by with_unfolding_all rfl) : QE X (.Compare a [op, op'] [b, c] pos) (dChain F F' g h l) :=
  (pe_chain ho ho' ha hb hc hm).imp fun σ H Q ⟨H0, B, A, ρ, d, S, q, k⟩ => by
    obtain ⟨x, e1, q⟩ := bind1 q
    obtain ⟨y, e2, q⟩ := bind1 q
    obtain ⟨t, e3, q⟩ := bind1 q
    obtain ⟨b, e4, q⟩ := bind1 q
    refine ⟨H0, B, A, ρ, x, S, e1, fun v H1 s1 r1 => ⟨H0, B, A, ρ, y, S.ext s1, e2, fun w H2 s2 r2 => ?_⟩⟩
    refine b2 A H2 x y v w _ t ((S.muts.ext s1).ext s2) (r1.ext s2) r2 e3 fun z H3 s3 r3 => ⟨b, r3.bool e4, ?_⟩
    have s13 := (s1.trans s2).trans s3
    cases b with
    | true =>
      rw [if_pos rfl] at q
      refine iteT ?_
      obtain ⟨zz, e5, e6⟩ := bind1 q
      refine ⟨H0, B, A, ρ, zz, S.ext s13, e5, fun u H4 s4 r4 => ?_⟩
      exact b2' A H4 y zz w u Q d ((S.muts.ext s13).ext s4) ((r2.ext s3).ext s4) r4 e6 fun u' H5 s5 r5 => k u' H5 ((s13.trans s4).trans s5) r5
    | false =>
      rw [if_neg Bool.false_ne_true] at q
      refine iteF ?_
      cases q
      exact k _ H3 s13 rfl
theorem t_chain {op op' : CmpOp} {r r' : R2} {F F' : D → D → Option D} {a b c : Expr} {g h l : Den} {pos : Pos} (ho : OpR X (compareOp op) r) (ho' : OpR X (compareOp op') r') (b2 : B2 r F) (b2' : B2 r' F') (ha : QV X a g) (hb : QV X b h) (hc : QV X c l)
    (hm : lastMarks [op, op'] [b, c] = false := by with_unfolding_all rfl) : QT X (.Compare a [op, op'] [b, c] pos) (dT (dChain F F' g h l)) :=
  (pt_chain ho ho' ha hb hc hm).imp fun σ H Q ⟨H0, B, A, ρ, kk, S, qq, k⟩ => by
    obtain ⟨d, q, ed⟩ := bind1 qq
    obtain ⟨x, e1, q⟩ := bind1 q
    obtain ⟨y, e2, q⟩ := bind1 q
    obtain ⟨t, e3, q⟩ := bind1 q
    obtain ⟨b, e4, q⟩ := bind1 q
    refine ⟨H0, B, A, ρ, x, S, e1, fun v H1 s1 r1 => ⟨H0, B, A, ρ, y, S.ext s1, e2, fun w H2 s2 r2 => ?_⟩⟩
    refine b2 A H2 x y v w _ t ((S.muts.ext s1).ext s2) (r1.ext s2) r2 e3 fun z H3 s3 r3 => ⟨b, r3.bool e4, ?_⟩
    have s13 := (s1.trans s2).trans s3
    cases b with
    | true =>
      rw [if_pos rfl] at q
      refine iteT ?_
      obtain ⟨zz, e5, e6⟩ := bind1 q
      refine ⟨H0, B, A, ρ, zz, S.ext s13, e5, fun u H4 s4 r4 => ?_⟩
      exact b2' A H4 y zz w u _ d ((S.muts.ext s13).ext s4) ((r2.ext s3).ext s4) r4 e6 fun u' H5 s5 r5 => ⟨kk, r5.bool ed, k H5 ((s13.trans s4).trans s5)⟩
    | false =>
      rw [if_neg Bool.false_ne_true] at q
      refine iteF ?_
      cases q
      cases ed
      exact ⟨false, rfl, k H3 s13⟩
end
end LY
set_option Elab.async false
set_option linter.all false
set_option maxRecDepth 100000
set_option maxHeartbeats 1000000
/-! LT1: code that draws from a pot: readings with any outcome that may come, and how many draws are left -/
namespace LY
open PySem PySem.Spec PyProof.Rows L2
/-- the pot at p: at least c draws are left -/
def PotAt (H : Hp) (p : Addr) (c : Nat) : Prop := ∃ i j k : Int, H p = some (.lst [.int i, .int j, .int k]) ∧ 0 ≤ j ∧ j < 2 ^ 61 ∧ 0 ≤ k ∧ k + c ≤ 1000000
theorem PotAt.le {H : Hp} {p : Addr} {c c' : Nat} (h : PotAt H p c) (l : c' ≤ c) : PotAt H p c' := by
  obtain ⟨i, j, k, h1, h2, h3, h4, h5⟩ := h
  exact ⟨i, j, k, h1, h2, h3, h4, by omega⟩
theorem PotAt.ext {H H' : Hp} {p : Addr} {c : Nat} (h : PotAt H p c) (s : Sm H H') : PotAt H' p c := by
  obtain ⟨i, j, k, h1, h2⟩ := h
  exact ⟨i, j, k, s _ _ h1, h2⟩
/-- all but the pot stays -/
abbrev SmP (p : Addr) (H H' : Hp) : Prop := SameX [p] H H'
theorem SmP.in_ {p : Addr} {A : List Addr} {H H' : Hp} (s : SmP p H H') (h : p ∈ A) : SameX A H H' := s.mono fun a ha => by
  rw [List.mem_singleton.mp ha]; exact h
theorem Sm.p {H H' : Hp} (s : Sm H H') (p : Addr) : SmP p H H' := s.x
def SimP (p : Addr) (H0 : Hp) (B A : List Addr) (H : Hp) (σ : L2.St) (ρ : Rho) : Prop := p ∈ B ∧ ∃ H1, (∀ a, a ≠ p → H1 a = H0 a) ∧ Sim H1 B A H σ ρ
theorem SimP.mem {p : Addr} {H0 : Hp} {B A : List Addr} {H : Hp} {σ : L2.St} {ρ : Rho} (S : SimP p H0 B A H σ ρ) : p ∈ A := let ⟨h, _, _, S⟩ := S; S.sub p h
theorem SimP.muts {p : Addr} {H0 : Hp} {B A : List Addr} {H : Hp} {σ : L2.St} {ρ : Rho} (S : SimP p H0 B A H σ ρ) : MutA A H := let ⟨_, _, _, S⟩ := S; S.muts
theorem SimP.same {p : Addr} {H0 : Hp} {B A : List Addr} {H : Hp} {σ : L2.St} {ρ : Rho} (S : SimP p H0 B A H σ ρ) : SmP p H0 H := fun a o n e => by
  obtain ⟨_, H1, e1, S⟩ := S
  exact S.same a o (by rw [e1 a fun z => n (by rw [z]; exact List.mem_singleton.mpr rfl)]; exact e)
theorem SimP.step {p : Addr} {c : Nat} {H0 : Hp} {B A : List Addr} {H H' : Hp} {σ : L2.St} {ρ : Rho} (S : SimP p H0 B A H σ ρ) (s : SmP p H H') (q : PotAt H' p c) : SimP p H0 B A H' σ ρ := by
  have hA := S.mem
  obtain ⟨hp, H1, e1, S⟩ := S
  have sA : SameX A H H' := s.in_ hA
  have stay : ∀ a o, a ≠ p → H a = some o → H' a = some o := fun a o n e => s a o (fun z => n (List.mem_singleton.mp z)) e
  refine ⟨hp, fun a => if a = p then H' p else H1 a, fun a n => (if_neg n).trans (e1 a n), S.len, fun a o e => ?_, fun a ha => ?_, S.sub, fun a ha => ?_, fun i x e => ?_, S.own, S.dis⟩
  · by_cases n : a = p
    · simp only [if_pos n] at e; rw [n]; exact e
    · simp only [if_neg n] at e
      exact stay a o n (S.same a o e)
  · by_cases n : a = p
    · subst n
      obtain ⟨i, j, k, h1, _⟩ := q
      exact ⟨_, h1, rfl⟩
    · obtain ⟨o, h1, h2⟩ := S.muts a ha
      exact ⟨o, stay a o n h1, h2⟩
  · by_cases n : a = p
    · exact .inl (n ▸ hp)
    · rcases S.newA a ha with h | h
      · exact .inl h
      · exact .inr (by simp only [if_neg n]; exact h)
  · have := S.sl i x e
    cases x with
    | r d => obtain ⟨v, h1, h2⟩ := this; exact ⟨v, h1, h2.ext sA⟩
    | o d =>
      obtain ⟨a, h1, h2, h3⟩ := this
      obtain ⟨b, h4, h5⟩ := S.own i d e
      rw [h1] at h4; cases h4
      have n : a ≠ p := fun z => h5 (z ▸ hp)
      refine ⟨a, h1, h2, ?_⟩
      cases d with
      | lst ds => obtain ⟨vs, g1, g2⟩ := h3; exact ⟨vs, stay _ _ n g1, g2.ext sA⟩
      | dic ds => obtain ⟨vs, g1, g2⟩ := h3; exact ⟨vs, stay _ _ n g1, g2.ext sA⟩
      | _ => exact h3.elim
theorem SimP.ext {p : Addr} {H0 : Hp} {B A : List Addr} {H H' : Hp} {σ : L2.St} {ρ : Rho} (S : SimP p H0 B A H σ ρ) (s : Sm H H') : SimP p H0 B A H' σ ρ := let ⟨h, H1, e, S⟩ := S; ⟨h, H1, e, S.ext s⟩
/-! ### readings -/
abbrev TDen := Rho → Nat → (D → Nat → Prop) → Prop
abbrev TDenL := Rho → Nat → (List D → Nat → Prop) → Prop
abbrev TDenB := Rho → Nat → (Bool → Nat → Prop) → Prop
def xE (p : Addr) (g : TDen) : TE := fun σ H Q => ∃ H0 B A ρ c P, SimP p H0 B A H σ ρ ∧ PotAt H p c ∧ g ρ c P ∧ ∀ d c' v H', P d c' → SmP p H H' → PotAt H' p c' → Rp A H' d v → Q v H'
/-- a new list -/
def xF (p : Addr) (g : TDenL) : TE := fun σ H Q => ∃ H0 B A ρ c P, SimP p H0 B A H σ ρ ∧ PotAt H p c ∧ g ρ c P ∧ ∀ ds c' q vs H', P ds c' → SmP p H H' → PotAt H' p c' → H q = none → H' q = some (.lst vs) → RpL (q :: A) H' ds vs → Q (.ref q) H'
def xB (p : Addr) (g : TDenB) : TT := fun σ H Q => ∃ H0 B A ρ c P, SimP p H0 B A H σ ρ ∧ PotAt H p c ∧ g ρ c P ∧ ∀ b c' H', P b c' → SmP p H H' → PotAt H' p c' → Q b H'
def xL (p : Addr) (g : TDenL) : TA := fun σ H Q => ∃ H0 B A ρ c P, SimP p H0 B A H σ ρ ∧ PotAt H p c ∧ g ρ c P ∧ ∀ ds c' vs H', P ds c' → SmP p H H' → PotAt H' p c' → RpL A H' ds vs → Q vs H'
abbrev XE (X : Cx) (p : Addr) (e : Expr) (g : TDen) : Prop := PE X e (xE p g)
abbrev XF (X : Cx) (p : Addr) (e : Expr) (g : TDenL) : Prop := PE X e (xF p g)
abbrev XT (X : Cx) (p : Addr) (e : Expr) (g : TDenB) : Prop := PT X e (xB p g)
abbrev XL (X : Cx) (p : Addr) (es : List Expr) (g : TDenL) : Prop := PA X es (xL p g)
theorem SmP.refl (p : Addr) (H : Hp) : SmP p H H := SameX.refl _ _
theorem SmP.new {p : Addr} {H : Hp} {a : Addr} {o : HO} (h : H a = none) : SmP p H (upd H a o) := (Sm.new h).p p
theorem Rp.mv {p : Addr} {A : List Addr} {H H' : Hp} {d : D} {v : V} (r : Rp A H d v) (h : p ∈ A) (s : SmP p H H') : Rp A H' d v := r.ext (s.in_ h)
theorem RpL.mv {p : Addr} {A : List Addr} {H H' : Hp} {d : List D} {v : List V} (r : RpL A H d v) (h : p ∈ A) (s : SmP p H H') : RpL A H' d v := r.ext (s.in_ h)
theorem PotAt.ne {H : Hp} {p a : Addr} {c : Nat} (q : PotAt H p c) (h : H a = none) : a ≠ p := fun z => by
  obtain ⟨i, j, k, h1, _⟩ := q
  rw [z, h1] at h; cases h
theorem PotAt.new {H : Hp} {p a : Addr} {c : Nat} {o : HO} (q : PotAt H p c) (h : H a = none) : PotAt (upd H a o) p c := q.ext (Sm.new h)
theorem smP_fresh {p a : Addr} {c : Nat} {H H' : Hp} (s : SmP p H H') (q' : PotAt H' p c) (h : H' a = none) : H a = none := by
  have n := q'.ne h
  cases e : H a with
  | none => rfl
  | some o => rw [s a o (fun z => n (List.mem_singleton.mp z)) e] at h; cases h
section
variable {X : Cx} {p : Addr}
/-! ### quiet expressions -/
def lE (g : Den) : TDen := fun ρ c P => ∃ d, g ρ = some d ∧ P d c
def lL (g : Rho → Option (List D)) : TDenL := fun ρ c P => ∃ d, g ρ = some d ∧ P d c
def lB (g : Rho → Option Bool) : TDenB := fun ρ c P => ∃ d, g ρ = some d ∧ P d c
theorem QE.x {e : Expr} {g : Den} (h : QE X e g) : XE X p e (lE g) := h.imp fun σ H Q ⟨H0, B, A, ρ, c, P, S, q, ⟨d, e1, e2⟩, k⟩ => by
  obtain ⟨_, H1, _, S1⟩ := S
  exact ⟨H1, B, A, ρ, d, S1, e1, fun v H' s r => k d c v H' e2 (s.p p) (q.ext s) r⟩
theorem QF.x {e : Expr} {g : Rho → Option (List D)} (h : QF X e g) : XF X p e (lL g) := h.imp fun σ H Q ⟨H0, B, A, ρ, c, P, S, q, ⟨d, e1, e2⟩, k⟩ => by
  obtain ⟨_, H1, _, S1⟩ := S
  exact ⟨H1, B, A, ρ, d, S1, e1, fun a vs H' s n h1 r => k d c a vs H' e2 (s.p p) (q.ext s) n h1 r⟩
theorem QT.x {e : Expr} {g : Rho → Option Bool} (h : QT X e g) : XT X p e (lB g) := h.imp fun σ H Q ⟨H0, B, A, ρ, c, P, S, q, ⟨d, e1, e2⟩, k⟩ => by
  obtain ⟨_, H1, _, S1⟩ := S
  exact ⟨H1, B, A, ρ, d, S1, e1, fun H' s => k d c H' e2 (s.p p) (q.ext s)⟩
theorem QL.x {es : List Expr} {g : Rho → Option (List D)} (h : QL X es g) : XL X p es (lL g) := h.imp fun σ H Q ⟨H0, B, A, ρ, c, P, S, q, ⟨d, e1, e2⟩, k⟩ => by
  obtain ⟨_, H1, _, S1⟩ := S
  exact ⟨H1, B, A, ρ, d, S1, e1, fun v H' s r => k d c v H' e2 (s.p p) (q.ext s) r⟩
def xLst (g : TDenL) : TDen := fun ρ c P => g ρ c fun ds c' => P (.lst ds) c'
theorem XF.e {e : Expr} {g : TDenL} (h : XF X p e g) : XE X p e (xLst g) := h.imp fun σ H Q ⟨H0, B, A, ρ, c, P, S, q, g1, k⟩ =>
  ⟨H0, B, A, ρ, c, _, S, q, g1, fun ds c' a vs H' e2 s q' n h1 r => k _ c' _ H' e2 s q' ⟨a, vs, rfl, S.muts.new n, .of h1, r.cut fun b hb => .inl (List.mem_cons_of_mem _ hb)⟩⟩
/-! ### operators, comparisons, tests -/
def xOp (F : D → D → Option D) (g h : TDen) : TDen := fun ρ c P => g ρ c fun x c1 => h ρ c1 fun y c2 => ∃ d, F x y = some d ∧ P d c2
theorem x2_of {r : R2} {F : D → D → Option D} (b : B2 r F) {g h : TDen} {σ : L2.St} {H : Hp} {Q : VK} (w : xE p (xOp F g h) σ H Q) : tOp r (xE p g) (xE p h) σ H Q := by
  obtain ⟨H0, B, A, ρ, c, P, S, q, w, k⟩ := w
  refine ⟨H0, B, A, ρ, c, _, S, q, w, fun x c1 v H1 w1 s1 q1 r1 => ?_⟩
  have S1 := S.step s1 q1
  refine ⟨H0, B, A, ρ, c1, _, S1, q1, w1, fun y c2 u H2 w2 s2 q2 r2 => ?_⟩
  obtain ⟨d, e, pd⟩ := w2
  have S2 := S1.step s2 q2
  exact b A H2 x y v u Q d S2.muts (r1.mv S.mem s2).vw r2.vw e fun z H3 s3 r3 => k d c2 z H3 pd ((s1.trans s2).trans (s3.p p)) (q2.ext s3) r3
theorem x_op {op : Operator} {r : R2} {F : D → D → Option D} {a b : Expr} {g h : TDen} {pos : Pos} (ho : OpR X (binaryOp op) r) (b2 : B2 r F) (ha : XE X p a g) (hb : XE X p b h) : XE X p (.BinOp a op b pos) (xOp F g h) :=
  (pe_op ho ha hb).imp fun σ H Q w => x2_of b2 w
theorem x_cmp {op : CmpOp} {r : R2} {F : D → D → Option D} {a b : Expr} {g h : TDen} {pos : Pos} (ho : OpR X (compareOp op) r) (b2 : B2 r F) (ha : XE X p a g) (hb : XE X p b h) (hm : behindInMarks op b = false) : XE X p (.Compare a [op] [b] pos) (xOp F g h) :=
  (pe_cmpR ho ha hb hm).imp fun σ H Q w => x2_of b2 w
theorem x_ix {a b : Expr} {g h : TDen} {pos : Pos} (hu : X.A.units + 1 < cLine) (ha : XE X p a g) (hb : XE X p b h) (hs : PlainIx b := by exact fun _ _ => rfl) : XE X p (.Subscript a b pos) (xOp fIx g h) :=
  (pe_ix (ix_all hu) ha hb hs).imp fun σ H Q w => x2_of (b2_ix X.K) w
def xTst (g : TDen) : TDenB := fun ρ c P => g ρ c fun d c' => ∃ b, d = .bl b ∧ P b c'
theorem xt_cmp {op : CmpOp} {r : R2} {F : D → D → Option D} {a b : Expr} {g h : TDen} {pos : Pos} (ho : OpR X (compareOp op) r) (b2 : B2 r F) (ha : XE X p a g) (hb : XE X p b h) (hm : behindInMarks op b = false) : XT X p (.Compare a [op] [b] pos) (xTst (xOp F g h)) :=
  (pt_cmpR ho ha hb hm).imp fun σ H Q ⟨H0, B, A, ρ, c, P, S, q, w, k⟩ =>
    x2_of (Q := fun x H' => ∃ k, x = .bl k ∧ Q k H') b2 ⟨H0, B, A, ρ, c, _, S, q, w, fun d c' v H' ⟨b, e, pb⟩ s q' r => ⟨b, by subst e; exact r, k b c' H' pb s q'⟩⟩
theorem xt_val {e : Expr} {g : TDen} (h : XE X p e g) (he : ∀ whole, isTrue e X.env whole = (do let v ← whole; standAt e.pos; holding [v] (truthy v)) := by intro _; rfl) : XT X p e (xTst g) :=
  (pt_val h he).imp fun σ H Q ⟨H0, B, A, ρ, c, P, S, q, w, k⟩ => ⟨H0, B, A, ρ, c, _, S, q, w, fun d c' v H' ⟨b, e, pb⟩ s q' r => ⟨b, by subst e; exact r, k b c' H' pb s q'⟩⟩
def xAnd (g h : TDenB) : TDenB := fun ρ c P => g ρ c fun b c1 => if b = true then h ρ c1 P else P false c1
def xOr (g h : TDenB) : TDenB := fun ρ c P => g ρ c fun b c1 => if b = true then P true c1 else h ρ c1 P
def xNot (g : TDenB) : TDenB := fun ρ c P => g ρ c fun b c1 => P (!b) c1
abbrev XW (X : Cx) (p : Addr) (e : Expr) (g : TDenB) : Prop := PW X e (xB p g)
theorem xw_and {a b : Expr} {rest : List Expr} {pos : Pos} {g h : TDenB} (ha : XT X p a g) (hb : XW X p (.BoolOp .And (b :: rest) pos) h) : XW X p (.BoolOp .And (a :: b :: rest) pos) (xAnd g h) :=
  (pw_and ha hb).imp fun σ H Q ⟨H0, B, A, ρ, c, P, S, q, w, k⟩ => ⟨H0, B, A, ρ, c, _, S, q, w, fun b c1 H1 w1 s1 q1 => by
    cases b with
    | true => exact iteT ⟨H0, B, A, ρ, c1, P, S.step s1 q1, q1, by rw [if_pos rfl] at w1; exact w1, fun b c2 H2 w2 s2 q2 => k b c2 H2 w2 (s1.trans s2) q2⟩
    | false => exact iteF (k false c1 H1 (by rw [if_neg Bool.false_ne_true] at w1; exact w1) s1 q1)⟩
theorem xw_or {a b : Expr} {rest : List Expr} {pos : Pos} {g h : TDenB} (ha : XT X p a g) (hb : XW X p (.BoolOp .Or (b :: rest) pos) h) : XW X p (.BoolOp .Or (a :: b :: rest) pos) (xOr g h) :=
  (pw_or ha hb).imp fun σ H Q ⟨H0, B, A, ρ, c, P, S, q, w, k⟩ => ⟨H0, B, A, ρ, c, _, S, q, w, fun b c1 H1 w1 s1 q1 => by
    cases b with
    | true => exact iteT (k true c1 H1 (by rw [if_pos rfl] at w1; exact w1) s1 q1)
    | false => exact iteF ⟨H0, B, A, ρ, c1, P, S.step s1 q1, q1, by rw [if_neg Bool.false_ne_true] at w1; exact w1, fun b c2 H2 w2 s2 q2 => k b c2 H2 w2 (s1.trans s2) q2⟩⟩
theorem xw_and1 {a : Expr} {pos : Pos} {g : TDenB} (ha : XT X p a g) : XW X p (.BoolOp .And [a] pos) g := pw_and1 ha
theorem xw_or1 {a : Expr} {pos : Pos} {g : TDenB} (ha : XT X p a g) : XW X p (.BoolOp .Or [a] pos) g := pw_or1 ha
theorem XW.t {e : Expr} {g : TDenB} (h : XW X p e g) : XT X p e g := PW.pt h
theorem xt_not {a : Expr} {pos : Pos} {g : TDenB} (ha : XT X p a g) : XT X p (.UnaryOp .Not a pos) (xNot g) :=
  (pt_not ha).imp fun σ H Q ⟨H0, B, A, ρ, c, P, S, q, w, k⟩ => ⟨H0, B, A, ρ, c, _, S, q, w, fun b c1 H1 w1 s1 q1 => k _ c1 H1 w1 s1 q1⟩
def xIf (cc : TDenB) (g h : TDen) : TDen := fun ρ c P => cc ρ c fun b c1 => if b = true then g ρ c1 P else h ρ c1 P
theorem x_if {cc a b : Expr} {pos : Pos} {gc : TDenB} {g h : TDen} (hc : XT X p cc gc) (ha : XE X p a g) (hb : XE X p b h) : XE X p (.IfExp cc a b pos) (xIf gc g h) :=
  (pe_ifExp hc ha hb).imp fun σ H Q ⟨H0, B, A, ρ, c, P, S, q, w, k⟩ => ⟨H0, B, A, ρ, c, _, S, q, w, fun b c1 H1 w1 s1 q1 => by
    cases b with
    | true => exact iteT ⟨H0, B, A, ρ, c1, P, S.step s1 q1, q1, by rw [if_pos rfl] at w1; exact w1, fun d c2 v H2 w2 s2 q2 r => k d c2 v H2 w2 (s1.trans s2) q2 r⟩
    | false => exact iteF ⟨H0, B, A, ρ, c1, P, S.step s1 q1, q1, by rw [if_neg Bool.false_ne_true] at w1; exact w1, fun d c2 v H2 w2 s2 q2 r => k d c2 v H2 w2 (s1.trans s2) q2 r⟩⟩
/-- and, or, not as values: of truth values -/
def xAndV (g h : TDen) : TDen := fun ρ c P => g ρ c fun x c1 => ∃ b, x = .bl b ∧ if b = true then h ρ c1 P else P (.bl false) c1
theorem x_one {op} {a : Expr} {pos : Pos} {g : TDen} (h : XE X p a g) : XE X p (.BoolOp op [a] pos) g := pe_one h
theorem x_and {a b : Expr} {rest : List Expr} {pos : Pos} {g h : TDen} (ha : XE X p a g) (hb : XE X p (.BoolOp .And (b :: rest) pos) h) : XE X p (.BoolOp .And (a :: b :: rest) pos) (xAndV g h) :=
  (pe_and ha hb).imp fun σ H Q ⟨H0, B, A, ρ, c, P, S, q, w, k⟩ => ⟨H0, B, A, ρ, c, _, S, q, w, fun d c1 v H1 ⟨b, e, w1⟩ s1 q1 r1 => ⟨b, by subst e; exact r1, by
    cases b with
    | true => exact iteT ⟨H0, B, A, ρ, c1, P, S.step s1 q1, q1, by rw [if_pos rfl] at w1; exact w1, fun d c2 v H2 w2 s2 q2 r => k d c2 v H2 w2 (s1.trans s2) q2 r⟩
    | false => exact iteF (k (.bl false) c1 _ H1 (by rw [if_neg Bool.false_ne_true] at w1; exact w1) s1 q1 rfl)⟩⟩
/-! ### argument lists, displays -/
def xNil : TDenL := fun ρ c P => P [] c
def xCons (g : TDen) (h : TDenL) : TDenL := fun ρ c P => g ρ c fun d c1 => h ρ c1 fun ds c2 => P (d :: ds) c2
theorem xl_nil : XL X p [] xNil := pa_nil.imp fun σ H Q ⟨H0, B, A, ρ, c, P, S, q, w, k⟩ => k [] c [] H w (SmP.refl p H) q rfl
theorem xl_cons {e : Expr} {es : List Expr} {g : TDen} {h : TDenL} (he : XE X p e g) (hr : XL X p es h) (hs : starEach (e :: es) X.env = (false, eval e X.env) :: starEach es X.env := by rfl) : XL X p (e :: es) (xCons g h) :=
  (pa_cons he hr hs).imp fun σ H Q ⟨H0, B, A, ρ, c, P, S, q, w, k⟩ => ⟨H0, B, A, ρ, c, _, S, q, w, fun d c1 v H1 w1 s1 q1 r1 =>
    ⟨H0, B, A, ρ, c1, _, S.step s1 q1, q1, w1, fun ds c2 vs H2 w2 s2 q2 r2 => k _ c2 _ H2 w2 (s1.trans s2) q2 ⟨v, vs, rfl, r1.mv S.mem s2, r2⟩⟩⟩
def xTup (g : TDenL) : TDen := fun ρ c P => g ρ c fun ds c1 => ds.length ≤ 1000 ∧ P (.tup ds) c1
theorem x_tup {es : List Expr} {k : Nat} {pos : Pos} {g : TDenL} (h : XL X p es g) : XE X p (.Tuple es k pos) (xTup g) :=
  (pe_tupS h).imp fun σ H Q ⟨H0, B, A, ρ, c, P, S, q, w, k⟩ => ⟨H0, B, A, ρ, c, _, S, q, w, fun ds c1 vs H1 w1 s1 q1 r1 =>
    ⟨by rw [r1.length, sizeLine_eq]; have := w1.1; omega, fun a o ha ho => k _ c1 _ _ w1.2 (s1.trans (SmP.new ha)) (q1.new ha) (Rp.newT (S.step s1 q1).muts r1 ha ho)⟩⟩
def xDisp (g : TDenL) : TDenL := fun ρ c P => g ρ c fun ds c1 => ds.length ≤ 1000 ∧ P ds c1
theorem xf_lst {es : List Expr} {pos : Pos} {g : TDenL} (h : XL X p es g) : XF X p (.List es pos) (xDisp g) :=
  (pe_lst h).imp fun σ H Q ⟨H0, B, A, ρ, c, P, S, q, w, k⟩ => ⟨H0, B, A, ρ, c, _, S, q, w, fun ds c1 vs H1 w1 s1 q1 r1 =>
    ⟨by rw [r1.length, sizeLine_eq]; have := w1.1; omega, fun a ha => k _ c1 a vs _ w1.2 (s1.trans (SmP.new ha)) (q1.new ha) (smP_fresh s1 q1 ha) upd_same ((r1.addNew ha).ext (Sm.new ha).x)⟩⟩
def xAdd (g h : TDen) : TDenL := fun ρ c P => g ρ c fun x c1 => h ρ c1 fun y c2 => ∃ i j, x = .lst i ∧ y = .lst j ∧ i.length + j.length ≤ 100000 ∧ P (i ++ j) c2
/-! ### calls -/
def x1 (F : D → Option D) (g : TDen) : TDen := fun ρ c P => g ρ c fun x c1 => ∃ d, F x = some d ∧ P d c1
theorem x1_of {r : List V → Hp → VK → Prop} {F : D → Option D} (b : B1 r F) {g : TDen} {σ : L2.St} {H : Hp} {Q : VK} (w : xE p (x1 F g) σ H Q) : xL p (xCons g xNil) σ H (fun vs H1 => r vs H1 Q) := by
  obtain ⟨H0, B, A, ρ, c, P, S, q, w, k⟩ := w
  refine ⟨H0, B, A, ρ, c, fun ds c1 => ∃ x d, ds = [x] ∧ F x = some d ∧ P d c1, S, q, ?_, fun ds c1 vs H1 w1 s1 q1 r1 => ?_⟩
  · show g ρ c fun x c1 => ∃ y d, [x] = [y] ∧ F y = some d ∧ P d c1
    have e : (fun x c1 => ∃ d, F x = some d ∧ P d c1) = fun x c1 => ∃ y d, [x] = [y] ∧ F y = some d ∧ P d c1 := by
      funext x c1
      refine propext ⟨fun ⟨d, a, b⟩ => ⟨x, d, rfl, a, b⟩, fun ⟨y, d, e, a, b⟩ => ⟨d, ?_, b⟩⟩
      cases e; exact a
    rw [← e]; exact w
  · obtain ⟨x, d, rfl, e, pd⟩ := w1
    obtain ⟨v, rr, rfl, r2, r3⟩ := r1
    rw [show rr = [] from r3]
    exact b A H1 x v Q d (S.step s1 q1).muts r2.vw e fun u H2 s2 r2 => k d c1 u H2 pd (s1.trans (s2.p p)) (q1.ext s2) r2
theorem x_callB {id : String} {x : Str} {pp pos : Pos} {e : Expr} {g : TDen} {r : List V → Hp → VK → Prop} {F : D → Option D} (hc : CallR X (.builtin id) r) (b : B1 r F) (hg : Gl X x) (hm : X.mg x = none) (hv : bootBuiltins x = some (.builtin id)) (ha : XE X p e g)
    (hn : x ≠ "__name__" := by decide) (hdb : (x == ("__debug__" : Str)) = false := by decide) (he : starEach [e] X.env = (false, eval e X.env) :: starEach [] X.env := by rfl) : XE X p (.Call (.Name x pp) [e] [] pos) (x1 F g) :=
  (pe_callB hc hg hm hv (xl_cons ha xl_nil he) hn hdb he (by rfl)).imp fun σ H Q w => x1_of b w
theorem x_callTy {id : String} {x : Str} {pp pos : Pos} {e : Expr} {g : TDen} {r : List V → Hp → VK → Prop} {F : D → Option D} (hc : CallR X (.type id) r) (b : B1 r F) (hg : Gl X x) (hm : X.mg x = none) (hv : bootBuiltins x = some (.type id)) (ha : XE X p e g)
    (hn : x ≠ "__name__" := by decide) (hdb : (x == ("__debug__" : Str)) = false := by decide) (he : starEach [e] X.env = (false, eval e X.env) :: starEach [] X.env := by rfl) : XE X p (.Call (.Name x pp) [e] [] pos) (x1 F g) :=
  (pe_callTy hc hg hm hv (xl_cons ha xl_nil he) hn hdb he (by rfl)).imp fun σ H Q w => x1_of b w
def x2 (F : D → D → Option D) (g h : TDen) : TDen := xOp F g h
theorem x2l_of {r : List V → Hp → VK → Prop} {F : D → D → Option D} (b : B2L r F) {g h : TDen} {σ : L2.St} {H : Hp} {Q : VK} (w : xE p (xOp F g h) σ H Q) : tCons (xE p g) (tCons (xE p h) tNil) σ H (fun vs H1 => r vs H1 Q) := by
  obtain ⟨H0, B, A, ρ, c, P, S, q, w, k⟩ := w
  refine ⟨H0, B, A, ρ, c, _, S, q, w, fun x c1 v H1 w1 s1 q1 r1 => ?_⟩
  have S1 := S.step s1 q1
  refine ⟨H0, B, A, ρ, c1, _, S1, q1, w1, fun y c2 u H2 w2 s2 q2 r2 => ?_⟩
  obtain ⟨d, e, pd⟩ := w2
  exact b A H2 x y v u Q d (S1.step s2 q2).muts (r1.mv S.mem s2).vw r2.vw e fun z H3 s3 r3 => k d c2 z H3 pd ((s1.trans s2).trans (s3.p p)) (q2.ext s3) r3
theorem x_callB2 {id : String} {x : Str} {pp pos : Pos} {e e' : Expr} {g h : TDen} {r : List V → Hp → VK → Prop} {F : D → D → Option D} (hc : CallR X (.builtin id) r) (b : B2L r F) (hg : Gl X x) (hm : X.mg x = none) (hv : bootBuiltins x = some (.builtin id)) (ha : XE X p e g) (hb : XE X p e' h)
    (hn : x ≠ "__name__" := by decide) (hdb : (x == ("__debug__" : Str)) = false := by decide) (he : starEach [e, e'] X.env = (false, eval e X.env) :: starEach [e'] X.env := by rfl) (he' : starEach [e'] X.env = (false, eval e' X.env) :: starEach [] X.env := by rfl)
    (hpl : (backTo pos (starEach [e'] X.env)).any (·.1) = false := by rfl) : XE X p (.Call (.Name x pp) [e, e'] [] pos) (xOp F g h) :=
  (pe_callB hc hg hm hv (pa_cons ha (pa_cons hb pa_nil he') he) hn hdb he hpl).imp fun σ H Q w => x2l_of b w
/-- the promise of a def that draws: the pot first; R: what may come of the other arguments -/
def spX (R : List D → Nat → (D → Nat → Prop) → Prop) : Sp := fun vs H Q _ => ∃ p A ds us c P, vs = .ref p :: us ∧ p ∈ A ∧ PotAt H p c ∧ MutA A H ∧ RpL A H ds us ∧ R ds c P ∧ ∀ d c' v H', P d c' → SmP p H H' → PotAt H' p c' → Rp A H' d v → Q v H'
/-- .. that gives a new list -/
def spXF (R : List D → Nat → (List D → Nat → Prop) → Prop) : Sp := fun vs H Q _ => ∃ p A ds us c P, vs = .ref p :: us ∧ p ∈ A ∧ PotAt H p c ∧ MutA A H ∧ RpL A H ds us ∧ R ds c P ∧ ∀ xs c' q ys H', P xs c' → SmP p H H' → PotAt H' p c' → H q = none → H' q = some (.lst ys) → RpL (q :: A) H' xs ys → Q (.ref q) H'
/-- slot i holds the pot -/
def potIn (i : Nat) (p : Addr) (ρ : Rho) : Prop := ρ[i]? = some (some (.r (.raw (.ref p))))
def xCall (p : Addr) (i : Nat) (R : List D → Nat → (D → Nat → Prop) → Prop) (g : TDenL) : TDen := fun ρ c P => potIn i p ρ ∧ g ρ c fun ds c1 => R ds c1 P
def xCallF (p : Addr) (i : Nat) (R : List D → Nat → (List D → Nat → Prop) → Prop) (g : TDenL) : TDenL := fun ρ c P => potIn i p ρ ∧ g ρ c fun ds c1 => R ds c1 P
theorem SimP.pot {H0 : Hp} {B A : List Addr} {H : Hp} {σ : L2.St} {ρ : Rho} (S : SimP p H0 B A H σ ρ) {i : Nat} (h : potIn i p ρ) : σ[i]? = some (some (.ref p)) := by
  obtain ⟨_, H1, _, S⟩ := S
  obtain ⟨v, e, r⟩ := S.sl i _ h
  rw [e, show v = .ref p from r]
theorem x_call {k i : Nat} {x y : Str} {R : List D → Nat → (D → Nat → Prop) → Prop} {pp py pos : Pos} {es : List Expr} {g : TDenL} (G : FnX X k x (spX R)) (hr : Room k X.A) (hg : Gl X x) (hN : X.N[i]? = some y) (hv : Vis X.env.scope y) (ha : XL X p es g)
    (hd : (y == ("__debug__" : Str)) = false := by decide) (hcd : (y == ("__classdict__" : Str)) = false := by decide)
    (hdb : (x == ("__debug__" : Str)) = false := by decide) (he : starEach (.Name y py :: es) X.env = (false, eval (.Name y py) X.env) :: starEach es X.env := by rfl) (hpl : (backTo pos (starEach es X.env)).any (·.1) = false := by rfl) :
    XE X p (.Call (.Name x pp) (.Name y py :: es) [] pos) (xCall p i R g) := by
  obtain ⟨f, fd, ps, h1, h2, h3, h4⟩ := G.ex
  refine (pe_call h2 hr hg h1 h3 h4 .nil pass0 (pa_cons (pe_var hN hv hd hcd) ha he) hdb he hpl).imp fun σ H Q ⟨H0, B, A, ρ, c, P, S, q, ⟨wi, w⟩, k⟩ => ?_
  refine ⟨.ref p, S.pot wi, H0, B, A, ρ, c, _, S, q, w, fun ds c1 vs H1 w1 s1 q1 r1 => ?_⟩
  exact ⟨p, A, ds, vs, c1, P, by rw [List.append_nil], S.mem, q1, (S.step s1 q1).muts, r1, w1, fun d c2 v H2 w2 s2 q2 r2 => k d c2 v H2 w2 (s1.trans s2) q2 r2⟩
theorem xf_call {k i : Nat} {x y : Str} {R : List D → Nat → (List D → Nat → Prop) → Prop} {pp py pos : Pos} {es : List Expr} {g : TDenL} (G : FnX X k x (spXF R)) (hr : Room k X.A) (hg : Gl X x) (hN : X.N[i]? = some y) (hv : Vis X.env.scope y) (ha : XL X p es g)
    (hd : (y == ("__debug__" : Str)) = false := by decide) (hcd : (y == ("__classdict__" : Str)) = false := by decide)
    (hdb : (x == ("__debug__" : Str)) = false := by decide) (he : starEach (.Name y py :: es) X.env = (false, eval (.Name y py) X.env) :: starEach es X.env := by rfl) (hpl : (backTo pos (starEach es X.env)).any (·.1) = false := by rfl) :
    XF X p (.Call (.Name x pp) (.Name y py :: es) [] pos) (xCallF p i R g) := by
  obtain ⟨f, fd, ps, h1, h2, h3, h4⟩ := G.ex
  refine (pe_call h2 hr hg h1 h3 h4 .nil pass0 (pa_cons (pe_var hN hv hd hcd) ha he) hdb he hpl).imp fun σ H Q ⟨H0, B, A, ρ, c, P, S, q, ⟨wi, w⟩, k⟩ => ?_
  refine ⟨.ref p, S.pot wi, H0, B, A, ρ, c, _, S, q, w, fun ds c1 vs H1 w1 s1 q1 r1 => ?_⟩
  exact ⟨p, A, ds, vs, c1, P, by rw [List.append_nil], S.mem, q1, (S.step s1 q1).muts, r1, w1, fun d c2 a ys H2 w2 s2 q2 ha h2 r2 => k d c2 a ys H2 w2 (s1.trans s2) q2 (smP_fresh s1 q1 ha) h2 r2⟩
end
end LY
set_option Elab.async false
set_option linter.all false
set_option maxRecDepth 100000
set_option maxHeartbeats 1000000
/-! LT2: code that draws: walks, comprehensions, statements, loops, the rule for a def -/
namespace LY
open PySem PySem.Spec PyProof.Rows L2
/-! ### walks -/
def xI (p : Addr) (g : TDenL) : TI := fun σ H R => ∃ H0 B A ρ c P, SimP p H0 B A H σ ρ ∧ PotAt H p c ∧ g ρ c P ∧ ∀ ds c' J H', P ds c' → SmP p H H' → PotAt H' p c' → WkD (SameX A H') A H' J ds → R J H'
abbrev XI (X : Cx) (p : Addr) (tg e : Expr) (g : TDenL) : Prop := PI X tg e (xI p g)
def iBoth (K : PySem.W.Frag) (tl : TE) : TI := fun σ H R => tl σ H fun x H1 => (∃ a, x = .ref a ∧ (∃ xs, SqL K H1 a xs) ∧ R (Itl K a) H1) ∨ (∃ a, x = .ref a ∧ (∃ xs, SqT K H1 a xs) ∧ R (Itt K a) H1)
section
variable {X : Cx} {p : Addr}
theorem pi_both {tg l : Expr} {tl : TE} (hl : PE X l tl) : PI X tg l (iBoth X.K tl) := by
  refine ⟨fun pins s σ H R I h => ?_⟩
  refine thn (hl.run pins s σ H _ I h) fun v s1 ⟨x, H1, I1, r1, q1⟩ => ?_
  rcases q1 with ⟨a, e, ⟨xs, hq⟩, q⟩ | ⟨a, e, ⟨xs, hq⟩, q⟩
  · subst e
    cases r1
    obtain ⟨its, rv, p, hz⟩ := I1.list hq
    refine wpAny_pyIter_list p.isList ?_
    refine ⟨s1.heap.objs.size, [s1.heap.objs.size], _, _, H1, rfl, I1.kept (t' := s1.toks) fun b o e => Heap.get?_push_of_some _ e, turn_list a _, ⟨_, Heap.get?_push_size _ rfl, rfl, rfl⟩, fun b hb => ?_, q⟩
    have e : b = s1.heap.objs.size := by simpa using hb
    subst e
    exact I1.fpOk (Nat.le_refl _) (I1.hok.fresh (Nat.le_refl _))
  · -- a constant expression of the value, then pi_tup
    have hv : wpAny (model X.prog X.w) X.A (pyIter v) (PIE X pins σ tg R) X.xe s1 := by
      subst e
      cases r1
      obtain ⟨its, rv, p, hz⟩ := I1.tuple hq
      refine wpAny_pyIter_tuple p ?_
      refine ⟨s1.heap.objs.size, [s1.heap.objs.size], _, _, H1, rfl, I1.kept (t' := s1.toks) fun b o e => Heap.get?_push_of_some _ e, turn_tuple a _, ⟨_, Heap.get?_push_size _ rfl, rfl, rfl⟩, fun b hb => ?_, q⟩
      have e : b = s1.heap.objs.size := by simpa using hb
      subst e
      exact I1.fpOk (Nat.le_refl _) (I1.hok.fresh (Nat.le_refl _))
    exact hv
theorem QI.x {tg e : Expr} {g : Rho → Option (List D)} (h : QI X tg e g) : XI X p tg e (lL g) := h.imp fun σ H Q ⟨H0, B, A, ρ, c, P, S, q, ⟨d, e1, e2⟩, k⟩ => by
  obtain ⟨_, H1, _, S1⟩ := S
  exact ⟨H1, B, A, ρ, d, S1, e1, fun J H' s r => k d c J H' e2 (s.p p) (q.ext s) r⟩
/-- over a list or a tuple -/
def xWalk (g : TDen) : TDenL := fun ρ c P => g ρ c fun d c1 => ∃ ds, d.items = some ds ∧ P ds c1
theorem xi_seq {tg e : Expr} {g : TDen} (h : XE X p e g) : XI X p tg e (xWalk g) := (pi_both h).imp fun σ H Q ⟨H0, B, A, ρ, c, P, S, q, w, k⟩ =>
  ⟨H0, B, A, ρ, c, _, S, q, w, fun d c1 v H1 ⟨ds, e, pd⟩ s1 q1 r => by
    rcases D.items_lst e with rfl | rfl
    · obtain ⟨a, vs, rfl, na, ha, r2⟩ := r
      exact .inl ⟨a, rfl, ⟨vs, ha.sq⟩, k ds c1 _ H1 pd s1 q1 (wk_list r2 ha na)⟩
    · obtain ⟨a, vs, rfl, na, ha, r2⟩ := r
      exact .inr ⟨a, rfl, ⟨vs, ha.sq⟩, k ds c1 _ H1 pd s1 q1 (wk_tup r2 ha na)⟩⟩
def xRange1 (g : TDen) : TDenL := fun ρ c P => g ρ c fun d c1 => ∃ j, d = .int j ∧ -(2 ^ 62) ≤ j ∧ j < 2 ^ 62 ∧ P (rangeD 0 j) c1
theorem xi_range1 {tg a : Expr} {g : TDen} {pp pos : Pos} (hg : Gl X "range") (hm : X.mg "range" = none) (ha : XE X p a g) (hs : starEach [a] X.env = [(false, eval a X.env)] := by rfl) : XI X p tg (.Call (.Name "range" pp) [a] [] pos) (xRange1 g) :=
  (pi_range1 hg hm (xl_cons ha xl_nil hs) hs).imp fun σ H Q ⟨H0, B, A, ρ, c, P, S, q, w, k⟩ => by
    refine ⟨H0, B, A, ρ, c, fun ds c1 => ∃ j, ds = [.int j] ∧ -(2 ^ 62) ≤ j ∧ j < 2 ^ 62 ∧ P (rangeD 0 j) c1, S, q, ?_, fun ds c1 vs H1 ⟨j, e, h1, h2, pd⟩ s1 q1 r1 => ?_⟩
    · show g ρ c fun d c1 => ∃ j, [d] = [.int j] ∧ -(2 ^ 62) ≤ j ∧ j < 2 ^ 62 ∧ P (rangeD 0 j) c1
      have e : (fun d c1 => ∃ j, d = D.int j ∧ -(2 ^ 62) ≤ j ∧ j < 2 ^ 62 ∧ P (rangeD 0 j) c1) = fun d c1 => ∃ j, [d] = [D.int j] ∧ -(2 ^ 62) ≤ j ∧ j < 2 ^ 62 ∧ P (rangeD 0 j) c1 := by
        funext d c1
        simp
      rw [← e]; exact w
    · subst e
      obtain ⟨v, rr, rfl, r2, r3⟩ := r1
      rw [show rr = [] from r3]
      refine ⟨j, by rw [r2.vw.int], h1, h2, k _ c1 _ H1 pd s1 q1 ?_⟩
      have e : j.toNat = (j - 0).toNat := by simp
      rw [e]
      exact wk_range
/-- enumerate over a list that comes -/
def xEnum (g : TDen) : TDenL := fun ρ c P => g ρ c fun d c1 => ∃ ds, d = .lst ds ∧ P (enumD ds) c1
theorem xi_enum {e : Expr} {g : TDen} {pp pos tpos : Pos} {elts : List Expr} {kk : Nat} (hg : Gl X "enumerate") (hm : X.mg "enumerate" = none) (h : XE X p e g) (hs : starEach [e] X.env = [(false, eval e X.env)] := by rfl) :
    XI X p (.Tuple elts kk tpos) (.Call (.Name "enumerate" pp) [e] [] pos) (xEnum g) :=
  (pi_enumS hg hm (xl_cons h xl_nil (by rw [hs]; rfl)) hs).imp fun σ H Q ⟨H0, B, A, ρ, c, P, S, q, w, k⟩ => by
    refine ⟨H0, B, A, ρ, c, fun ds c1 => ∃ xs, ds = [.lst xs] ∧ P (enumD xs) c1, S, q, ?_, fun ds c1 vs H1 ⟨xs, e, pd⟩ s1 q1 r1 => ?_⟩
    · show g ρ c fun d c1 => ∃ xs, [d] = [.lst xs] ∧ P (enumD xs) c1
      have e : (fun d c1 => ∃ xs, d = D.lst xs ∧ P (enumD xs) c1) = fun d c1 => ∃ xs, [d] = [D.lst xs] ∧ P (enumD xs) c1 := by
        funext d c1
        simp
      rw [← e]; exact w
    · subst e
      obtain ⟨v, rr, rfl, r2, r3⟩ := r1
      rw [show rr = [] from r3]
      obtain ⟨a, vs, rfl, na, ha, r⟩ := r2
      exact ⟨a, vs, rfl, ha.sq, k _ c1 _ H1 pd s1 q1 (wk_enum r (fun H s => (ha.x s na).sq) fun _ s => s)⟩
/-! ### comprehensions -/
def compX (b : D → Rho → Option Rho) (t : TDenB) (f : TDen) (ρ : Rho) : List D → Nat → (List D → Nat → Prop) → Prop
  | [], c, P => P [] c
  | x :: xs, c, P => ∃ ρ1, b x ρ = some ρ1 ∧ t ρ1 c fun k c1 => if k = true then f ρ1 c1 fun y c2 => compX b t f ρ xs c2 fun ys c3 => P (y :: ys) c3 else compX b t f ρ xs c1 P
def xComp (vs : List Nat) (g : TDenL) (b : D → Rho → Option Rho) (t : TDenB) (f : TDen) : TDenL := fun ρ c P => g ρ c fun xs c1 => xs.length ≤ 100000 ∧ compX b t f (wipeR ρ vs) xs c1 P
def xYes : TDenB := fun _ c P => P true c
theorem SimP.wipe {p : Addr} {H0 : Hp} {B A : List Addr} {H : Hp} {σ : L2.St} {ρ : Rho} (S : SimP p H0 B A H σ ρ) (vs : List Nat) : SimP p H0 B A H (L2.wipe σ vs) (wipeR ρ vs) := let ⟨h, H1, e, S⟩ := S; ⟨h, H1, e, S.wipe vs⟩
theorem SimP.addNew {p q : Addr} {H0 : Hp} {B A : List Addr} {H : Hp} {σ : L2.St} {ρ : Rho} {o : HO} (S : SimP p H0 B A H σ ρ) (hq : H q = none) (ho : isMut o = true) : SimP p H0 B (q :: A) (upd H q o) σ ρ := let ⟨h, H1, e, S⟩ := S; ⟨h, H1, e, S.addNew hq ho⟩
theorem SimP.new0 {p q : Addr} {c : Nat} {H0 : Hp} {B A : List Addr} {H : Hp} {σ : L2.St} {ρ : Rho} (S : SimP p H0 B A H σ ρ) (pt : PotAt H p c) (hq : H q = none) : H0 q = none := by
  have n := pt.ne hq
  obtain ⟨_, H1, e, S⟩ := S
  rw [← e q n]
  exact S.same.none hq
theorem SimP.grow {p q : Addr} {H0 : Hp} {B A : List Addr} {H : Hp} {σ : L2.St} {ρ : Rho} (S : SimP p H0 B (q :: A) H σ ρ) {xs ys : List V} (hq : H q = some (.lst xs)) (h0 : H0 q = none) (n : q ≠ p) (no : ∀ (i : Nat) (d : D), ρ[i]? = some (some (SV.o d)) → σ[i]? ≠ some (some (V.ref q))) : SimP p H0 B (q :: A) (upd H q (.lst ys)) σ ρ :=
  let ⟨h, H1, e, S⟩ := S; ⟨h, H1, e, S.grow hq (by rw [e q n]; exact h0) no⟩
theorem SimP.sl {p : Addr} {H0 : Hp} {B A : List Addr} {H : Hp} {σ : L2.St} {ρ : Rho} (S : SimP p H0 B A H σ ρ) (i : Nat) (x : SV) (e : ρ[i]? = some (some x)) : SlOk A H σ i x := let ⟨_, _, _, S⟩ := S; S.sl i x e
theorem compX_mono {b : D → Rho → Option Rho} {t : TDenB} {f : TDen} {ρ : Rho} {xs : List D} {c : Nat} {P : List D → Nat → Prop} (h : compX b t f ρ xs c P) : compX b t f ρ xs c P := h
theorem lcX_den {is vs : List Nat} {gi : TDenL} {b : D → Rho → Option Rho} {t : TDenB} {f : TDen} {σ : L2.St} {H : Hp} {Q : VK} (his : ∀ i ∈ is, i ∈ vs) (w : xF p (xComp vs gi b t f) σ H Q) : tLc (xI p gi) (tG is b) (xB p t) (xE p f) vs σ H Q := by
  obtain ⟨H0, B, A, ρ, c, P, S, q, w, k⟩ := w
  refine ⟨H0, B, A, ρ, c, _, S, q, w, fun xs c1 J H1 ⟨hlen, w1⟩ s1 q1 W D hD => ?_⟩
  obtain ⟨n, G, Y, wk, en, hG, hY⟩ := W.ex
  have S1 := S.step s1 q1
  have SD : SimP p H0 B (D :: A) (upd H1 D (.lst [])) (L2.wipe σ vs) (wipeR ρ vs) := (S1.wipe vs).addNew hD rfl
  have dA : D ∉ A := S1.muts.new hD
  have hD0 : H0 D = none := S1.new0 q1 hD
  have nDp : D ≠ p := q1.ne hD
  have noD : ∀ (i : Nat) (d : LY.D), (wipeR ρ vs)[i]? = some (some (SV.o d)) → (L2.wipe σ vs)[i]? ≠ some (some (V.ref D)) := fun i d e z => by
    obtain ⟨a, h1, h2, _⟩ := (S1.wipe vs).sl i _ e
    rw [z] at h1; cases h1
    exact dA h2
  have hA := S.mem
  have hDA : p ∈ D :: A := List.mem_cons_of_mem _ hA
  refine lc_it wk (fun i Hc => SmP p H1 Hc ∧ ∃ acc ds ci, PotAt Hc p ci ∧ Hc D = some (.lst acc) ∧ RpL (D :: A) Hc ds acc ∧ acc.length ≤ i ∧ compX b t f (wipeR ρ vs) (xs.drop i) ci (fun rest c' => P (ds ++ rest) c') ∧ SimP p H0 B (D :: A) Hc (L2.wipe σ vs) (wipeR ρ vs)) ?_ ?_ ?_ ?_
  · exact ⟨SmP.new hD, [], [], c1, q1.new hD, upd_same, rfl, Nat.le_refl _, by rw [List.drop_zero]; exact w1, SD⟩
  · rintro i Hc _ ⟨sm, _⟩
    exact hG _ (sm.in_ hA)
  · rintro i x Hc H2 hi ⟨sm, acc, ds, ci, pc, h1, h2, h3, h4, SC⟩ y
    have newA : ∀ a ∈ D :: A, a ∈ A ∨ H1 a = none := fun a ha => by
      rcases List.mem_cons.mp ha with rfl | ha
      · exact .inr hD
      · exact .inl ha
    obtain ⟨s2, d, d1, d2⟩ := hY (D :: A) i Hc x H2 newA SC.muts (sm.in_ hA) hi y
    have hx : xs.drop i = d :: xs.drop (i + 1) := by
      obtain ⟨hlt, e⟩ := List.getElem?_eq_some_iff.mp d1
      rw [List.drop_eq_getElem_cons hlt, e]
    rw [hx, compX] at h4
    obtain ⟨ρ1, g1, h4⟩ := h4
    obtain ⟨hp, H3, e3, SC3⟩ := SC
    refine ⟨H3, B, D :: A, wipeR ρ vs, d, ρ1, SC3.ext s2, d2, g1, fun σ1 l1 f1 S1' => ?_⟩
    have SC : SimP p H0 B (D :: A) Hc (L2.wipe σ vs) (wipeR ρ vs) := ⟨hp, H3, e3, SC3⟩
    have S1P : SimP p H0 B (D :: A) H2 σ1 ρ1 := ⟨hp, H3, e3, S1'⟩
    refine ⟨?_, H0, B, D :: A, ρ1, ci, _, S1P, pc.ext s2, h4, fun kb c2 H4 w4 s4 q4 => ?_⟩
    · refine List.ext_getElem? fun j => ?_
      by_cases hj : j ∈ vs
      · rw [wipe_in hj, wipe_in hj, l1, wipe_length]
      · rw [wipe_out' hj, f1 j fun z => hj (his j z)]
    · have hD2 : H4 D = some (.lst acc) := s4 _ _ (fun z => nDp (List.mem_singleton.mp z)) (s2 _ _ h1)
      have s24 : SmP p Hc H4 := (s2.p p).trans s4
      cases kb with
      | true =>
        rw [if_pos rfl] at w4
        refine iteT ⟨H0, B, D :: A, ρ1, c2, _, S1P.step s4 q4, q4, w4, fun yd c3 yv H5 w5 s5 q5 r5 => ?_⟩
        have s25 := s24.trans s5
        have hD5 : H5 D = some (.lst acc) := s5 _ _ (fun z => nDp (List.mem_singleton.mp z)) hD2
        refine ⟨acc, hD5, by rw [sizeLine_eq]; omega, ?_, acc ++ [yv], ds ++ [yd], c3, ?_, upd_same, ?_, by rw [List.length_append, List.length_singleton]; omega, ?_, ?_⟩
        · intro a o na e
          rw [upd_ne (ne_of_none e hD)]
          exact s25 _ _ na (sm _ _ na e)
        · obtain ⟨i1, j1, k1, g1, g2⟩ := q5
          exact ⟨i1, j1, k1, by rw [upd_ne (fun z => nDp z.symm)]; exact g1, g2⟩
        · have sx : SameX (D :: A) H5 (upd H5 D (.lst (acc ++ [yv]))) := fun a o n e => by
            rw [upd_ne fun z => n (by simp [z])]
            exact e
          exact ((h2.mv hDA s25).append (.one r5)).ext sx
        · have e : (fun ys c3 => P (ds ++ (yd :: ys)) c3) = fun rest c' => P ((ds ++ [yd]) ++ rest) c' := by
            funext ys c3
            rw [List.append_assoc]; rfl
          rw [← e]; exact w5
        · exact (SC.step s25 q5).grow hD5 hD0 nDp noD
      | false =>
        rw [if_neg Bool.false_ne_true] at w4
        exact iteF ⟨sm.trans s24, acc, ds, c2, q4, hD2, h2.mv hDA s24, by omega, w4, SC.step s24 q4⟩
  · rintro Hc ⟨sm, acc, ds, ci, pc, h1, h2, h3, h4, SC⟩
    have : xs.drop n = [] := by rw [en]; exact List.drop_length
    rw [this] at h4
    have h4' : P (ds ++ []) ci := h4
    rw [List.append_nil] at h4'
    exact k ds ci D acc Hc h4' (s1.trans sm) pc (smP_fresh s1 q1 hD) h1 h2
abbrev XTs (X : Cx) (p : Addr) (ifs : List Expr) (g : TDenB) : Prop := PTs X ifs (xB p g)
theorem xts_nil : XTs X p [] xYes := pts_nil.imp fun σ H Q ⟨H0, B, A, ρ, c, P, S, q, w, k⟩ => k true c H w (SmP.refl p H) q
theorem xts_one {c : Expr} {g : TDenB} (h : XT X p c g) : XTs X p [c] g := pts_one h
theorem xf_lc {elt tg iter : Expr} {ifs : List Expr} {scope : Scope} {own : List (Str × Nat)} {pos : Pos} {is : List Nat} {gi : TDenL} {b : D → Rho → Option Rho} {t : TDenB} {f : TDen} (hc : X.calm = true) (hN : X.N.Nodup)
    (ok : BlkOk X.N X.env.scope scope own) (hi : XI X p tg iter gi)
    (hg : ∀ (s : Shared) (H : Hp) (C : Addr) (cl : List (Str × Addr)) (fp : List Addr), QG (X.blk s H scope (compEnvC scope cl C X.env) fp) tg is b) (ht : ∀ (s : Shared) (H : Hp) (C : Addr) (cl : List (Str × Addr)) (fp : List Addr), XTs (X.blk s H scope (compEnvC scope cl C X.env) fp) p ifs t)
    (he : ∀ (s : Shared) (H : Hp) (C : Addr) (cl : List (Str × Addr)) (fp : List Addr), XE (X.blk s H scope (compEnvC scope cl C X.env) fp) p elt f) (his : ∀ i ∈ is, i ∈ own.map (·.2)) (hs : ∀ x, foldedSetIterable iter X.env x = pure x := by intro _; rfl) :
    XF X p (.ListComp elt [⟨tg, iter, ifs, 0⟩] scope pos) (xComp (own.map (·.2)) gi b t f) :=
  (pe_lc hc hN hi ok hg ht he hs).imp fun σ H Q w => lcX_den his w
end
end LY
set_option Elab.async false
set_option linter.all false
set_option maxRecDepth 100000
set_option maxHeartbeats 1000000
/-! LT3: code that draws: statements, loops, the rule for a def -/
namespace LY
open PySem PySem.Spec PyProof.Rows L2
abbrev TSt := Rho → Nat → (Out → Nat → Prop) → Prop
def OutX (p : Addr) (H0 : Hp) (B A : List Addr) (H : Hp) (E : Ends) (o : Out) (c : Nat) : Prop := match o with
  | .nx ρ' => ∀ A' σ' H', Step A H A' H' → SimP p H0 B A' H' σ' ρ' → PotAt H' p c → E.nx σ' H'
  | .bk ρ' => ∀ A' σ' H', Step A H A' H' → SimP p H0 B A' H' σ' ρ' → PotAt H' p c → E.bk σ' H'
  | .ct ρ' => ∀ A' σ' H', Step A H A' H' → SimP p H0 B A' H' σ' ρ' → PotAt H' p c → E.ct σ' H'
  | .ret d => ∀ v H', SmP p H0 H' → PotAt H' p c → Rp B H' d v → E.rt v H'
def xS (p : Addr) (F : TSt) : TS := fun E σ H => ∃ H0 B A ρ c P, SimP p H0 B A H σ ρ ∧ PotAt H p c ∧ F ρ c P ∧ ∀ o c', P o c' → OutX p H0 B A H E o c'
theorem OutX.step {p : Addr} {H0 : Hp} {B A A1 : List Addr} {H H1 : Hp} {E : Ends} {o : Out} {c : Nat} (s : Step A H A1 H1) (h : OutX p H0 B A H E o c) : OutX p H0 B A1 H1 E o c := by
  cases o with
  | nx ρ => exact fun A' σ' H' t S q => h A' σ' H' (s.trans t) S q
  | bk ρ => exact fun A' σ' H' t S q => h A' σ' H' (s.trans t) S q
  | ct ρ => exact fun A' σ' H' t S q => h A' σ' H' (s.trans t) S q
  | ret d => exact h
theorem Step.p {p : Addr} {A : List Addr} {H H' : Hp} (h : p ∈ A) (s : SmP p H H') : Step A H A H' := ⟨s.in_ h, fun a h => .inl h⟩
abbrev XS (X : Cx) (p : Addr) (st : Stmt) (F : TSt) : Prop := PS X st (xS p F)
abbrev XSs (X : Cx) (p : Addr) (st : List Stmt) (F : TSt) : Prop := PSs X st (xS p F)
theorem SimP.at {p : Addr} {c : Nat} {H0 : Hp} {B A : List Addr} {H : Hp} {σ : L2.St} {ρ : Rho} (S : SimP p H0 B A H σ ρ) (q : PotAt H p c) : ∃ H1, (∀ a, a ≠ p → H1 a = H0 a) ∧ H1 p = H p ∧ Sim H1 B A H σ ρ := by
  have hA := S.mem
  obtain ⟨hp, H1, e1, S⟩ := S
  refine ⟨fun a => if a = p then H p else H1 a, fun a n => (if_neg n).trans (e1 a n), if_pos rfl, S.len, fun a o e => ?_, S.muts, S.sub, fun a ha => ?_, S.sl, S.own, S.dis⟩
  · by_cases n : a = p
    · simp only [if_pos n] at e; rw [n]; exact e
    · simp only [if_neg n] at e
      exact S.same a o e
  · by_cases n : a = p
    · exact .inl (n ▸ hp)
    · rcases S.newA a ha with h | h
      · exact .inl h
      · exact .inr (by simp only [if_neg n]; exact h)
section
variable {X : Cx} {p : Addr}
/-! ### quiet statements -/
def lS (F : Rho → Option Out) : TSt := fun ρ c P => ∃ o, F ρ = some o ∧ P o c
theorem lS_of {F : Rho → Option Out} {E : Ends} {σ : L2.St} {H : Hp} (w : xS p (lS F) E σ H) : tS F E σ H := by
  obtain ⟨H0, B, A, ρ, c, P, S, q, ⟨o, e1, e2⟩, k⟩ := w
  have hp := S.1
  obtain ⟨H1, f1, f2, S1⟩ := S.at q
  refine ⟨H1, B, A, ρ, o, S1, e1, ?_⟩
  have pot : ∀ H', Sm H1 H' → PotAt H' p c := fun H' s => by
    obtain ⟨i, j, k, g1, g2⟩ := q
    exact ⟨i, j, k, s _ _ (f2.trans g1), g2⟩
  have k2 := k o c e2
  cases o with
  | nx ρ' => exact fun A' σ' H' t S' => k2 A' σ' H' t ⟨hp, H1, f1, S'⟩ (pot _ S'.same)
  | bk ρ' => exact fun A' σ' H' t S' => k2 A' σ' H' t ⟨hp, H1, f1, S'⟩ (pot _ S'.same)
  | ct ρ' => exact fun A' σ' H' t S' => k2 A' σ' H' t ⟨hp, H1, f1, S'⟩ (pot _ S'.same)
  | ret d => exact fun v H' s r => k2 v H' (fun a o n e => s a o (by rw [f1 a fun z => n (by rw [z]; exact List.mem_singleton.mpr rfl)]; exact e)) (pot _ s) r
theorem QS.x {st : Stmt} {F : Rho → Option Out} (h : QS X st F) : XS X p st (lS F) := h.imp fun E σ H w => lS_of w
theorem QSs.x {st : List Stmt} {F : Rho → Option Out} (h : QSs X st F) : XSs X p st (lS F) := h.imp fun E σ H w => lS_of w
/-! ### sequences -/
def xSeq (F G : TSt) : TSt := fun ρ c P => F ρ c fun o c1 => match o with
  | .nx ρ1 => G ρ1 c1 P
  | o => P o c1
theorem xss_cons {st : Stmt} {rest : List Stmt} {F G : TSt} (h1 : XS X p st F) (h2 : XSs X p rest G) : XSs X p (st :: rest) (xSeq F G) :=
  (pss_cons h1 h2).imp fun E σ H ⟨H0, B, A, ρ, c, P, S, q, w, k⟩ => ⟨H0, B, A, ρ, c, _, S, q, w, fun o c1 w1 => by
    cases o with
    | nx ρ1 => exact fun A' σ' H' t S' q' => ⟨H0, B, A', ρ1, c1, P, S', q', w1, fun o c2 po => (k o c2 po).step t⟩
    | bk ρ => exact k _ c1 w1
    | ct ρ => exact k _ c1 w1
    | ret d => exact k _ c1 w1⟩
theorem xss_one {st : Stmt} {F : TSt} (h1 : XS X p st F) : XSs X p [st] F := pss_one h1
def xRel (i : Nat) (F : TSt) : TSt := fun ρ c P => F (rel i ρ) c P
theorem relX_of {F : TSt} {E : Ends} {σ : L2.St} {H : Hp} (i : Nat) (w : xS p (xRel i F) E σ H) : xS p F E σ H := by
  obtain ⟨H0, B, A, ρ, c, P, ⟨hp, H1, e1, S⟩, q, w, k⟩ := w
  obtain ⟨A', st, S'⟩ := S.rel i
  exact ⟨H0, B, A', _, c, P, ⟨hp, H1, e1, S'⟩, q, w, fun o c' po => (k o c' po).step st⟩
theorem xs_rel {st : Stmt} {F : TSt} (i : Nat) (h : XS X p st F) : XS X p st (xRel i F) := h.imp fun E σ H w => relX_of i w
theorem xss_rel {st : List Stmt} {F : TSt} (i : Nat) (h : XSs X p st F) : XSs X p st (xRel i F) := h.imp fun E σ H w => relX_of i w
/-! ### small statements -/
def xDrop (g : TDen) : TSt := fun ρ c P => g ρ c fun _ c1 => P (.nx ρ) c1
theorem xs_expr {e : Expr} {g : TDen} {pos : Pos} (he : XE X p e g) (hs : swapsWith e none pos.line X.env = pure false := by rfl) : XS X p (.Expr e pos) (xDrop g) :=
  (ps_expr he hs).imp fun E σ H ⟨H0, B, A, ρ, c, P, S, q, w, k⟩ => ⟨H0, B, A, ρ, c, _, S, q, w, fun d c1 v H1 w1 s1 q1 r1 => k _ c1 w1 A σ H1 (Step.p S.mem s1) (S.step s1 q1) q1⟩
def xRet (g : TDen) : TSt := fun ρ c P => g ρ c fun d c1 => P (.ret d) c1
theorem xs_ret {e : Expr} {g : TDen} {pos : Pos} (he : XE X p e g) : XS X p (.Return (some e) pos) (xRet g) :=
  (ps_ret he).imp fun E σ H ⟨H0, B, A, ρ, c, P, S, q, w, k⟩ => ⟨H0, B, A, ρ, c, _, S, q, w, fun d c1 v H1 w1 s1 q1 r1 => by
    have hsub : ∀ a ∈ B, a ∈ A := by obtain ⟨_, _, _, S⟩ := S; exact S.sub
    exact k _ c1 w1 v H1 (S.same.trans s1) q1 (r1.cut fun a h => .inl (hsub a h))⟩
def xIfS (g : TDenB) (F G : TSt) : TSt := fun ρ c P => g ρ c fun b c1 => if b = true then F ρ c1 P else G ρ c1 P
theorem xs_if {cc : Expr} {a b : List Stmt} {g : TDenB} {F G : TSt} {pos : Pos} (hc : XT X p cc g) (ha : XSs X p a F) (hb : XSs X p b G) : XS X p (.If cc a b pos) (xIfS g F G) :=
  (ps_if hc ha hb).imp fun E σ H ⟨H0, B, A, ρ, c, P, S, q, w, k⟩ => ⟨H0, B, A, ρ, c, _, S, q, w, fun b c1 H1 w1 s1 q1 => by
    have st := Step.p S.mem s1
    cases b with
    | true => exact iteT ⟨H0, B, A, ρ, c1, P, S.step s1 q1, q1, by rw [if_pos rfl] at w1; exact w1, fun o c2 po => (k o c2 po).step st⟩
    | false => exact iteF ⟨H0, B, A, ρ, c1, P, S.step s1 q1, q1, by rw [if_neg Bool.false_ne_true] at w1; exact w1, fun o c2 po => (k o c2 po).step st⟩⟩
/-! ### assignments -/
def xAsg (b : D → Rho → Option Rho) (g : TDen) : TSt := fun ρ c P => g ρ c fun d c1 => ∃ ρ1, b d ρ = some ρ1 ∧ P (.nx ρ1) c1
theorem asgX_of {is : List Nat} {b : D → Rho → Option Rho} {g : TDen} {E : Ends} {σ : L2.St} {H : Hp} (w : xS p (xAsg b g) E σ H) : tAsg (xE p g) (tG is b) E σ H := by
  obtain ⟨H0, B, A, ρ, c, P, S, q, w, k⟩ := w
  refine ⟨H0, B, A, ρ, c, _, S, q, w, fun d c1 v H1 ⟨ρ1, e, w1⟩ s1 q1 r1 => ?_⟩
  obtain ⟨hp, H2, e2, S2⟩ := S.step s1 q1
  exact ⟨H2, B, A, ρ, d, ρ1, S2, r1, e, fun σ' l f S' => k _ c1 w1 A σ' H1 (Step.p S.mem s1) ⟨hp, H2, e2, S'⟩ q1⟩
theorem asgNX_of {i : Nat} {g : TDen} {E : Ends} {σ : L2.St} {H : Hp} (w : xS p (xAsg (bName i) g) E σ H) : tAsg (xE p g) (gName i) E σ H := by
  obtain ⟨H0, B, A, ρ, c, P, S, q, w, k⟩ := w
  refine ⟨H0, B, A, ρ, c, _, S, q, w, fun d c1 v H1 ⟨ρ1, e, w1⟩ s1 q1 r1 => ?_⟩
  obtain ⟨hp, H2, e2, S2⟩ := S.step s1 q1
  cases e
  exact k _ c1 w1 A _ H1 (Step.p S.mem s1) ⟨hp, H2, e2, S2.set r1⟩ q1
theorem xs_set {i : Nat} {x : Str} {e : Expr} {g : TDen} {pos pos' : Pos} (hN : X.N.Nodup) (hi : X.N[i]? = some x) (hx : Loc X.env.scope x) (he : XE X p e g) (hs : swapsWith e (some (.Name x pos')) pos.line X.env = pure false := by rfl)
    (hf : X.fn x = true ∨ X.env.scope.names.lookup x = some .local := by first | exact .inl rfl | exact .inr rfl | assumption) : XS X p (.Assign [.Name x pos'] e pos) (xAsg (bName i) g) :=
  (ps_set hN hi hx he hs hf).imp fun E σ H w => asgNX_of w
theorem xs_asg {tg e : Expr} {is : List Nat} {b : D → Rho → Option Rho} {g : TDen} {pos : Pos} (he : XE X p e g) (hg : QG X tg is b) (hs : swapsWithSole [tg] e pos.line X.env = pure false := by rfl) (hw : swappedStores [tg] e X.env = pure none := by rfl)
    (h1 : (assignEach [tg] X.env).map (·.2) = [assign tg X.env] := by rfl) : XS X p (.Assign [tg] e pos) (xAsg b g) :=
  (ps_asg he hg hs hw h1).imp fun E σ H w => asgX_of w
/-! ### slots that own -/
abbrev TDenZ := Rho → Nat → (SV → Nat → Prop) → Prop
def xZ (p : Addr) (z : TDenZ) : TE := fun σ H Q => ∃ H0 B A ρ c P, SimP p H0 B A H σ ρ ∧ PotAt H p c ∧ z ρ c P ∧ ∀ x c' v A' H', P x c' → SmP p H H' → Step A H A' H' → (∀ a ∈ A, a ∈ A') → SimP p H0 B A' H' σ ρ → PotAt H' p c' → ZOk B A' H' x v → (∀ d a, x = .o d → v = .ref a → a ∉ A) → Q v H'
abbrev XZ (X : Cx) (p : Addr) (e : Expr) (z : TDenZ) : Prop := PE X e (xZ p z)
def xzR (g : TDen) : TDenZ := fun ρ c P => g ρ c fun d c1 => P (.r d) c1
def xzO (g : TDenL) : TDenZ := fun ρ c P => g ρ c fun ds c1 => P (.o (.lst ds)) c1
theorem XE.z {e : Expr} {g : TDen} (h : XE X p e g) : XZ X p e (xzR g) := h.imp fun σ H Q ⟨H0, B, A, ρ, c, P, S, q, w, k⟩ =>
  ⟨H0, B, A, ρ, c, _, S, q, w, fun d c1 v H1 w1 s1 q1 r1 => k _ c1 v A H1 w1 s1 (Step.p S.mem s1) (fun a h => h) (S.step s1 q1) q1 r1 (fun d a h => by cases h)⟩
theorem SimP.add {p q : Addr} {c : Nat} {H0 : Hp} {B A : List Addr} {H H' : Hp} {σ : L2.St} {ρ : Rho} (S : SimP p H0 B A H σ ρ) {o : HO} (s : SmP p H H') (q' : PotAt H' p c) (hq : H q = none) (h1 : H' q = some o) (mo : isMut o = true) (n : q ≠ p) : SimP p H0 B (q :: A) H' σ ρ := by
  obtain ⟨i, j, k, g1, g2⟩ := q'
  -- the heap with the pot of H' alone
  have sp : SmP p H (upd H p (.lst [.int i, .int j, .int k])) := fun a o na e => by
    rw [upd_ne fun z => na (List.mem_singleton.mpr z)]; exact e
  obtain ⟨hp, H2, e2, S2⟩ := S.step (c := c) sp ⟨i, j, k, upd_same, g2⟩
  have sm : Sm (upd H p (.lst [.int i, .int j, .int k])) H' := fun a o e => by
    by_cases na : a = p
    · rw [na, upd_same] at e
      cases e
      rw [na]; exact g1
    · rw [upd_ne na] at e
      exact s a o (fun z => na (List.mem_singleton.mp z)) e
  exact ⟨hp, H2, e2, S2.add sm (by rw [upd_ne n]; exact hq) h1 mo⟩
theorem XF.z {e : Expr} {g : TDenL} (h : XF X p e g) : XZ X p e (xzO g) := h.imp fun σ H Q ⟨H0, B, A, ρ, c, P, S, q, w, k⟩ =>
  ⟨H0, B, A, ρ, c, _, S, q, w, fun ds c1 a vs H1 w1 s1 q1 na h1 r1 => by
    have aA := S.muts.new na
    have hsub : ∀ b ∈ B, b ∈ A := by obtain ⟨_, _, _, S⟩ := S; exact S.sub
    have st : Step A H (a :: A) H1 := ⟨s1.in_ S.mem, fun b hb => by
      rcases List.mem_cons.mp hb with rfl | hb
      · exact .inr na
      · exact .inl hb⟩
    exact k _ c1 (.ref a) (a :: A) H1 w1 s1 st (fun b hb => List.mem_cons_of_mem _ hb) (S.add s1 q1 na h1 rfl (q.ne na)) q1 ⟨a, rfl, List.mem_cons_self, fun z => aA (hsub a z), vs, h1, r1⟩ (fun d b _ e => by cases e; exact aA)⟩
def xPut (i : Nat) (z : TDenZ) : TSt := fun ρ c P => z ρ c fun x c1 => i < ρ.length ∧ P (.nx (ρ.set i (some x))) c1
theorem SimP.put {H0 : Hp} {B A : List Addr} {H : Hp} {σ : L2.St} {ρ : Rho} (S : SimP p H0 B A H σ ρ) {i : Nat} {x : SV} {v : V} (z : ZOk B A H x v) (hi : i < ρ.length)
    (fr : ∀ (d : D) (a : Addr), x = .o d → v = .ref a → ∀ (j : Nat) (e : D), ρ[j]? = some (some (.o e)) → σ[j]? ≠ some (some (.ref a))) : SimP p H0 B A H (σ.set i (some v)) (ρ.set i (some x)) := let ⟨h, H1, e, S⟩ := S; ⟨h, H1, e, S.put z hi fr⟩
theorem putX_of {i : Nat} {z : TDenZ} {E : Ends} {σ : L2.St} {H : Hp} (w : xS p (xPut i z) E σ H) : tAsg (xZ p z) (gName i) E σ H := by
  obtain ⟨H0, B, A, ρ, c, P, S, q, w, k⟩ := w
  refine ⟨H0, B, A, ρ, c, _, S, q, w, fun x c1 v A' H' ⟨hi, w1⟩ _ st t S' q' zo fr => k _ c1 w1 A' _ H' st (S'.put zo hi fun d a ex ev j e he hs => ?_) q'⟩
  obtain ⟨b, h1, h2, _⟩ := S.sl j _ he
  rw [hs] at h1; cases h1
  exact fr d a ex ev h2
theorem xs_put {i : Nat} {x : Str} {e : Expr} {z : TDenZ} {pos pos' : Pos} (hN : X.N.Nodup) (hi : X.N[i]? = some x) (hx : Loc X.env.scope x) (he : XZ X p e z) (hs : swapsWith e (some (.Name x pos')) pos.line X.env = pure false := by rfl)
    (hf : X.fn x = true ∨ X.env.scope.names.lookup x = some .local := by first | exact .inl rfl | exact .inr rfl | assumption) : XS X p (.Assign [.Name x pos'] e pos) (xPut i z) :=
  (ps_set hN hi hx he hs hf).imp fun E σ H w => putX_of w
/-- name = [.. for ..] on one line -/
theorem xs_putLc {i : Nat} {y : Str} {py spos : Pos} {elt tg iter : Expr} {ifs : List Expr} {scope : Scope} {own : List (Str × Nat)} {pos : Pos} {is : List Nat} {gi : TDenL} {b : D → Rho → Option Rho} {t : TDenB} {f : TDen} (hc : X.calm = true) (hN : X.N.Nodup) (hy : X.N[i]? = some y) (hyl : X.env.scope.names.lookup y = some .local)
    (hsw : swapsWith (.ListComp elt [⟨tg, iter, ifs, 0⟩] scope pos) (some (.Name y py)) spos.line X.env = pure true) (ok : BlkOk X.N X.env.scope scope own) (hi : XI X p tg iter gi)
    (hg : ∀ (s : Shared) (H : Hp) (C : Addr) (cl : List (Str × Addr)) (fp : List Addr), QG (X.blk s H scope (compEnvC scope cl C X.env) fp) tg is b) (ht : ∀ (s : Shared) (H : Hp) (C : Addr) (cl : List (Str × Addr)) (fp : List Addr), XTs (X.blk s H scope (compEnvC scope cl C X.env) fp) p ifs t)
    (he : ∀ (s : Shared) (H : Hp) (C : Addr) (cl : List (Str × Addr)) (fp : List Addr), XE (X.blk s H scope (compEnvC scope cl C X.env) fp) p elt f) (his : ∀ i ∈ is, i ∈ own.map (·.2)) (hs : ∀ x, foldedSetIterable iter X.env x = pure x := by intro _; rfl) :
    XS X p (.Assign [.Name y py] (.ListComp elt [⟨tg, iter, ifs, 0⟩] scope pos) spos) (xPut i (xzO (xComp (own.map (·.2)) gi b t f))) :=
  (ps_setLc hc hN hy hyl hsw hi ok hg ht he hs).imp fun E σ H w => by
    have w2 : xZ p (xzO (xComp (own.map (·.2)) gi b t f)) σ H (fun x H1 => gName i x σ H1 E.nx) := putX_of w
    refine lcX_den his ?_
    obtain ⟨H0, B, A, ρ, c, P, S, q, w, k⟩ := w2
    refine ⟨H0, B, A, ρ, c, _, S, q, w, fun ds c1 a vs H1 w1 s1 q1 na h1 r1 => ?_⟩
    have aA := S.muts.new na
    have hsub : ∀ b ∈ B, b ∈ A := by obtain ⟨_, _, _, S⟩ := S; exact S.sub
    have st : Step A H (a :: A) H1 := ⟨s1.in_ S.mem, fun b hb => by
      rcases List.mem_cons.mp hb with rfl | hb
      · exact .inr na
      · exact .inl hb⟩
    exact k _ c1 (.ref a) (a :: A) H1 w1 s1 st (fun b hb => List.mem_cons_of_mem _ hb) (S.add s1 q1 na h1 rfl (q.ne na)) q1 ⟨a, rfl, List.mem_cons_self, fun z => aA (hsub a z), vs, h1, r1⟩ (fun d b _ e => by cases e; exact aA)
/-- .. as a datum -/
theorem xs_putLcR {i : Nat} {y : Str} {py spos : Pos} {elt tg iter : Expr} {ifs : List Expr} {scope : Scope} {own : List (Str × Nat)} {pos : Pos} {is : List Nat} {gi : TDenL} {b : D → Rho → Option Rho} {t : TDenB} {f : TDen} (hc : X.calm = true) (hN : X.N.Nodup) (hy : X.N[i]? = some y) (hyl : X.env.scope.names.lookup y = some .local)
    (hsw : swapsWith (.ListComp elt [⟨tg, iter, ifs, 0⟩] scope pos) (some (.Name y py)) spos.line X.env = pure true) (ok : BlkOk X.N X.env.scope scope own) (hi : XI X p tg iter gi)
    (hg : ∀ (s : Shared) (H : Hp) (C : Addr) (cl : List (Str × Addr)) (fp : List Addr), QG (X.blk s H scope (compEnvC scope cl C X.env) fp) tg is b) (ht : ∀ (s : Shared) (H : Hp) (C : Addr) (cl : List (Str × Addr)) (fp : List Addr), XTs (X.blk s H scope (compEnvC scope cl C X.env) fp) p ifs t)
    (he : ∀ (s : Shared) (H : Hp) (C : Addr) (cl : List (Str × Addr)) (fp : List Addr), XE (X.blk s H scope (compEnvC scope cl C X.env) fp) p elt f) (his : ∀ i ∈ is, i ∈ own.map (·.2)) (hs : ∀ x, foldedSetIterable iter X.env x = pure x := by intro _; rfl) :
    XS X p (.Assign [.Name y py] (.ListComp elt [⟨tg, iter, ifs, 0⟩] scope pos) spos) (xAsg (bName i) (xLst (xComp (own.map (·.2)) gi b t f))) :=
  (ps_setLc hc hN hy hyl hsw hi ok hg ht he hs).imp fun E σ H w => by
    have w2 : xE p (xLst (xComp (own.map (·.2)) gi b t f)) σ H (fun x H1 => gName i x σ H1 E.nx) := asgNX_of w
    refine lcX_den his ?_
    obtain ⟨H0, B, A, ρ, c, P, S, q, w, k⟩ := w2
    exact ⟨H0, B, A, ρ, c, _, S, q, w, fun ds c1 a vs H1 w1 s1 q1 na h1 r1 => k _ c1 _ H1 w1 s1 q1 ⟨a, vs, rfl, S.muts.new na, .of h1, r1.cut fun b hb => .inl (List.mem_cons_of_mem _ hb)⟩⟩
/-- a, b = x, y -/
def xPut2 (i j : Nat) (z y : TDenZ) : TSt := fun ρ c P => z ρ c fun x c1 => y ρ c1 fun x' c2 => (i < ρ.length ∧ j < ρ.length) ∧ P (.nx ((ρ.set i (some x)).set j (some x'))) c2
theorem ZOk.mv {B A A' : List Addr} {H H' : Hp} {x : SV} {v : V} (hp : p ∈ B) (hA : p ∈ A) (sx : SmP p H H') (c : ∀ a ∈ A', a ∈ A ∨ H a = none) (t : ∀ a ∈ A, a ∈ A') (z : ZOk B A H x v) : ZOk B A' H' x v := by
  cases x with
  | r d => exact Rp.move z c (sx.in_ hA)
  | o d =>
    obtain ⟨a, e, h1, h2, h3⟩ := z
    have n : a ∉ [p] := fun z => h2 (by rw [List.mem_singleton.mp z]; exact hp)
    refine ⟨a, e, t a h1, h2, ?_⟩
    cases d with
    | lst ds => obtain ⟨vs, g1, g2⟩ := h3; exact ⟨vs, sx _ _ n g1, (g2.cut c).ext (sx.in_ (t p hA))⟩
    | dic ds => obtain ⟨vs, g1, g2⟩ := h3; exact ⟨vs, sx _ _ n g1, (g2.cut c).ext (sx.in_ (t p hA))⟩
    | _ => exact h3.elim
theorem xs_par {i j : Nat} {x y : Str} {a b : Expr} {za zb : TDenZ} {px py pt pos : Pos} {kt k2 pt2} (hc : X.calm = true) (hN : X.N.Nodup) (hi : X.N[i]? = some x) (hj : X.N[j]? = some y) (hij : i ≠ j)
    (hx : X.env.scope.names.lookup x = some .local) (hy : X.env.scope.names.lookup y = some .local) (ha : XZ X p a za) (hb : XZ X p b zb)
    (hw : swappedStores [.Tuple [.Name x px, .Name y py] kt pt] (.Tuple [a, b] k2 pt2) X.env = pure (some [x, y]))
    (hs1 : starEach [a, b] X.env = (false, eval a X.env) :: starEach [b] X.env := by rfl) (hs2 : starEach [b] X.env = (false, eval b X.env) :: starEach [] X.env := by rfl)
    (hs : swapsWithSole [.Tuple [.Name x px, .Name y py] kt pt] (.Tuple [a, b] k2 pt2) pos.line X.env = pure false := by rfl) :
    XS X p (.Assign [.Tuple [.Name x px, .Name y py] kt pt] (.Tuple [a, b] k2 pt2) pos) (xPut2 i j za zb) :=
  (ps_par hc hN hi hj hij hx hy (pa_cons ha (pa_cons hb pa_nil hs2) hs1) hw hs).imp fun E σ H ⟨H0, B, A, ρ, c, P, S, q, w, k⟩ => by
    refine ⟨H0, B, A, ρ, c, _, S, q, w, fun x1 c1 v A1 H1 w1 s1 st1 t1 S1 q1 z1 f1 => ?_⟩
    refine ⟨H0, B, A1, ρ, c1, _, S1, q1, w1, fun x2 c2 u A2 H2 ⟨hl, w2⟩ s2 st2 t2 S2 q2 z2 f2 => ?_⟩
    refine ⟨v, u, rfl, k _ c2 w2 A2 _ H2 (st1.trans st2) ?_ q2⟩
    have z1' := ZOk.mv S.1 S1.mem s2 st2.2 t2 z1
    have hlen : ρ.length = σ.length := by obtain ⟨_, _, _, S⟩ := S; exact S.len
    have P1 : SimP p H0 B A2 H2 (σ.set i (some v)) (ρ.set i (some x1)) := S2.put z1' hl.1 fun d a ex ev l e he hs => by
      obtain ⟨b, h1, h2, _⟩ := S.sl l _ he
      rw [hs] at h1; cases h1
      exact f1 d a ex ev h2
    refine P1.put z2 (by rw [List.length_set]; exact hl.2) fun d a ex ev l e he hs => ?_
    have nA1 := f2 d a ex ev
    by_cases hli : i = l
    · subst hli
      rw [List.getElem?_set_self (by rw [← hlen]; exact hl.1)] at hs
      rw [List.getElem?_set_self hl.1] at he
      cases he
      obtain ⟨b, h1, h2, _⟩ := z1
      cases hs
      cases h1
      exact nA1 h2
    · rw [List.getElem?_set_ne hli] at hs he
      obtain ⟨b, h1, h2, _⟩ := S1.sl l _ he
      rw [hs] at h1; cases h1
      exact nA1 h2
/-- a, b, c = x, y, z -/
def xPut3 (i j l : Nat) (z y u : TDenZ) : TSt := fun ρ c P => z ρ c fun x c1 => y ρ c1 fun x' c2 => u ρ c2 fun x'' c3 => (i < ρ.length ∧ j < ρ.length ∧ l < ρ.length) ∧ P (.nx (((ρ.set i (some x)).set j (some x')).set l (some x''))) c3
theorem xs_par3 {i j l : Nat} {x y z : Str} {a b cc : Expr} {za zb zc : TDenZ} {px py pz pt pos : Pos} {kt k2 pt2} (hc : X.calm = true) (hN : X.N.Nodup) (hi : X.N[i]? = some x) (hj : X.N[j]? = some y) (hl : X.N[l]? = some z) (hij : i ≠ j) (hil : i ≠ l) (hjl : j ≠ l)
    (hx : X.env.scope.names.lookup x = some .local) (hy : X.env.scope.names.lookup y = some .local) (hz : X.env.scope.names.lookup z = some .local) (ha : XZ X p a za) (hb : XZ X p b zb) (hcc : XZ X p cc zc)
    (hw : swappedStores [.Tuple [.Name x px, .Name y py, .Name z pz] kt pt] (.Tuple [a, b, cc] k2 pt2) X.env = pure (some [x, y, z]))
    (hs1 : starEach [a, b, cc] X.env = (false, eval a X.env) :: starEach [b, cc] X.env := by rfl) (hs2 : starEach [b, cc] X.env = (false, eval b X.env) :: starEach [cc] X.env := by rfl) (hs3 : starEach [cc] X.env = (false, eval cc X.env) :: starEach [] X.env := by rfl)
    (hs : swapsWithSole [.Tuple [.Name x px, .Name y py, .Name z pz] kt pt] (.Tuple [a, b, cc] k2 pt2) pos.line X.env = pure false := by rfl) :
    XS X p (.Assign [.Tuple [.Name x px, .Name y py, .Name z pz] kt pt] (.Tuple [a, b, cc] k2 pt2) pos) (xPut3 i j l za zb zc) :=
  (ps_par3 hc hN hi hj hl hij hil hjl hx hy hz (pa_cons ha (pa_cons hb (pa_cons hcc pa_nil hs3) hs2) hs1) hw hs).imp fun E σ H ⟨H0, B, A, ρ, c, P, S, q, w, k⟩ => by
    refine ⟨H0, B, A, ρ, c, _, S, q, w, fun x1 c1 v A1 H1 w1 s1 st1 t1 S1 q1 z1 f1 => ?_⟩
    refine ⟨H0, B, A1, ρ, c1, _, S1, q1, w1, fun x2 c2 u A2 H2 w2 s2 st2 t2 S2 q2 z2 f2 => ?_⟩
    refine ⟨H0, B, A2, ρ, c2, _, S2, q2, w2, fun x3 c3 y A3 H3 ⟨hlen3, w3⟩ s3 st3 t3 S3 q3 z3 f3 => ?_⟩
    refine ⟨v, u, y, rfl, k _ c3 w3 A3 _ H3 ((st1.trans st2).trans st3) ?_ q3⟩
    have hp := S.1
    have z1' := ZOk.mv hp S1.mem s2 st2.2 t2 z1
    have z1'' := ZOk.mv hp S2.mem s3 st3.2 t3 z1'
    have z2' := ZOk.mv hp S2.mem s3 st3.2 t3 z2
    have hlen : ρ.length = σ.length := by obtain ⟨_, _, _, S⟩ := S; exact S.len
    have o1 : ∀ (l : Nat) (e : D) (a : Addr), ρ[l]? = some (some (.o e)) → σ[l]? = some (some (.ref a)) → a ∈ A := fun l e a he hs => by
      obtain ⟨b, h1, h2, _⟩ := S.sl l _ he
      rw [hs] at h1; cases h1
      exact h2
    have P1 : SimP p H0 B A3 H3 (σ.set i (some v)) (ρ.set i (some x1)) := S3.put z1'' hlen3.1 fun d a ex ev l e he hs => f1 d a ex ev (o1 l e a he hs)
    have P2 : SimP p H0 B A3 H3 ((σ.set i (some v)).set j (some u)) ((ρ.set i (some x1)).set j (some x2)) := P1.put z2' (by rw [List.length_set]; exact hlen3.2.1) fun d a ex ev l e he hs => by
      have nA1 := f2 d a ex ev
      by_cases hli : i = l
      · subst hli
        rw [List.getElem?_set_self (by rw [← hlen]; exact hlen3.1)] at hs
        rw [List.getElem?_set_self hlen3.1] at he
        cases he
        obtain ⟨b, h1, h2, _⟩ := z1
        cases hs
        cases h1
        exact nA1 h2
      · rw [List.getElem?_set_ne hli] at hs he
        exact nA1 (t1 a (o1 l e a he hs))
    refine P2.put z3 (by rw [List.length_set, List.length_set]; exact hlen3.2.2) fun d a ex ev l e he hs => ?_
    have nA2 := f3 d a ex ev
    by_cases hjl : j = l
    · subst hjl
      rw [List.getElem?_set_self (by rw [List.length_set, ← hlen]; exact hlen3.2.1)] at hs
      rw [List.getElem?_set_self (by rw [List.length_set]; exact hlen3.2.1)] at he
      cases he
      obtain ⟨b, h1, h2, _⟩ := z2
      cases hs
      cases h1
      exact nA2 h2
    · rw [List.getElem?_set_ne hjl] at hs he
      by_cases hli : i = l
      · subst hli
        rw [List.getElem?_set_self (by rw [← hlen]; exact hlen3.1)] at hs
        rw [List.getElem?_set_self hlen3.1] at he
        cases he
        obtain ⟨b, h1, h2, _⟩ := z1
        cases hs
        cases h1
        exact nA2 (t2 _ h2)
      · rw [List.getElem?_set_ne hli] at hs he
        exact nA2 (t2 a (t1 a (o1 l e a he hs)))
/-! ### owned lists -/
def xAppend (i : Nat) (g : TDen) : TSt := fun ρ c P => ∃ ds, oLst i ρ = some ds ∧ ds.length ≤ 1000000 ∧ g ρ c fun d c1 => P (.nx (ρ.set i (some (.o (.lst (ds ++ [d])))))) c1
def xExtend (i : Nat) (g : TDen) : TSt := fun ρ c P => ∃ ds, oLst i ρ = some ds ∧ g ρ c fun d c1 => ∃ es, d = .lst es ∧ ds.length + es.length ≤ 1000000 ∧ P (.nx (ρ.set i (some (.o (.lst (ds ++ es)))))) c1
theorem SimP.own_upd {H0 : Hp} {B A : List Addr} {H : Hp} {σ : L2.St} {ρ : Rho} (S : SimP p H0 B A H σ ρ) {i : Nat} {d d' : D} {a : Addr} {u : HO} (hd : ρ[i]? = some (some (.o d))) (ha : σ[i]? = some (some (.ref a))) (mu : isMut u = true)
    (ow : Ow A (upd H a u) d' a) : Step A H A (upd H a u) ∧ SimP p H0 B A (upd H a u) σ (ρ.set i (some (.o d'))) ∧ a ≠ p := by
  obtain ⟨hp, H1, e1, S⟩ := S
  obtain ⟨st, S'⟩ := S.own_upd hd ha mu ow
  refine ⟨st, ⟨hp, H1, e1, S'⟩, fun z => ?_⟩
  obtain ⟨b, h1, h2⟩ := S.own i d hd
  rw [ha] at h1; cases h1
  exact h2 (z ▸ hp)
theorem PotAt.other {H : Hp} {a : Addr} {c : Nat} {o : HO} (q : PotAt H p c) (n : a ≠ p) : PotAt (upd H a o) p c := by
  obtain ⟨i, j, k, h1, h2⟩ := q
  exact ⟨i, j, k, by rw [upd_ne n.symm]; exact h1, h2⟩
theorem xs_append {i : Nat} {x : Str} {pp ap cp pos : Pos} {e : Expr} {g : TDen} (hN : X.N[i]? = some x) (hv : Vis X.env.scope x) (he : XE X p e g)
    (hd : (x == ("__debug__" : Str)) = false := by decide) (hcd : (x == ("__classdict__" : Str)) = false := by decide)
    (hbase : attributeBase (.Name x pp) "append" X.env (eval (.Name x pp) X.env) = eval (.Name x pp) X.env := by rfl)
    (hfew : ((backTo cp (starEach [e] X.env)).all (fun x => !x.1) && (backToKw cp (keywordEach [] X.env)).all (fun x => x.1.isSome)
      && decide (([e] : List Expr).length + ([] : List Keyword).length + (if ([] : List Keyword).isEmpty then 0 else 1) < 30)) = true := by rfl)
    (hline : (ap.endLine == cp.line) = true := by rfl) (hs : starEach [e] X.env = (false, eval e X.env) :: starEach [] X.env := by rfl)
    (hsw : swapsWith (.Call (.Attribute (.Name x pp) "append" ap) [e] [] cp) none pos.line X.env = pure false := by rfl) :
    XS X p (.Expr (.Call (.Attribute (.Name x pp) "append" ap) [e] [] cp) pos) (xAppend i g) :=
  (ps_expr (pe_bm PySem.F.plainAttrs_list PySem.F.slot_list_append PySem.F.type_list_append mt_append (pe_var hN hv hd hcd) (pa_cons he pa_nil hs) hbase hfew hline hs (by rfl)) hsw).imp fun E σ H ⟨H0, B, A, ρ, c, P, S, q, ⟨ds, e3, hl, w⟩, k⟩ => by
    have e5 := oLst_some e3
    obtain ⟨a, h1, aA, vs, h2, h3⟩ := S.sl i _ e5
    refine ⟨.ref a, h1, .inl ⟨rfl, vs, SqL.of h2⟩, H0, B, A, ρ, c, _, S, q, w, fun d c1 v H1 w1 s1 q1 r1 => ?_⟩
    have n : a ≠ p := by
      obtain ⟨hp, H2, _, S2⟩ := S
      obtain ⟨b, g1, g2⟩ := S2.own i _ e5
      rw [h1] at g1; cases g1
      exact fun z => g2 (z ▸ hp)
    have h2' := s1 _ _ (fun z => n (List.mem_singleton.mp z)) h2
    refine ⟨a, vs, v, rfl, rfl, h2', by rw [h3.length, sizeLine_eq]; omega, ?_⟩
    have sx : SameX A H1 (upd H1 a (.lst (vs ++ [v]))) := fun b o n e => by
      rw [upd_ne fun z : b = a => n (by rw [z]; exact aA)]
      exact e
    obtain ⟨t, S', _⟩ := (S.step s1 q1).own_upd (d' := .lst (ds ++ [d])) (u := .lst (vs ++ [v])) e5 h1 rfl ⟨_, upd_same, ((h3.mv S.mem s1).append (.one r1)).ext sx⟩
    exact k _ c1 w1 A σ _ ((Step.p S.mem s1).trans t) S' (q1.other n)
theorem xs_extend {i : Nat} {x : Str} {pp ap cp pos : Pos} {e : Expr} {g : TDen} (hN : X.N[i]? = some x) (hv : Vis X.env.scope x) (he : XE X p e g)
    (hd : (x == ("__debug__" : Str)) = false := by decide) (hcd : (x == ("__classdict__" : Str)) = false := by decide)
    (hbase : attributeBase (.Name x pp) "extend" X.env (eval (.Name x pp) X.env) = eval (.Name x pp) X.env := by rfl)
    (hfew : ((backTo cp (starEach [e] X.env)).all (fun x => !x.1) && (backToKw cp (keywordEach [] X.env)).all (fun x => x.1.isSome)
      && decide (([e] : List Expr).length + ([] : List Keyword).length + (if ([] : List Keyword).isEmpty then 0 else 1) < 30)) = true := by rfl)
    (hline : (ap.endLine == cp.line) = true := by rfl) (hs : starEach [e] X.env = (false, eval e X.env) :: starEach [] X.env := by rfl)
    (hsw : swapsWith (.Call (.Attribute (.Name x pp) "extend" ap) [e] [] cp) none pos.line X.env = pure false := by rfl) :
    XS X p (.Expr (.Call (.Attribute (.Name x pp) "extend" ap) [e] [] cp) pos) (xExtend i g) :=
  (ps_expr (pe_bm PySem.F.plainAttrs_list PySem.F.slot_list_extend PySem.F.type_list_extend mt_extendL (pe_var hN hv hd hcd) (pa_cons he pa_nil hs) hbase hfew hline hs (by rfl)) hsw).imp fun E σ H ⟨H0, B, A, ρ, c, P, S, q, ⟨ds, e3, w⟩, k⟩ => by
    have e5 := oLst_some e3
    obtain ⟨a, h1, aA, vs, h2, h3⟩ := S.sl i _ e5
    refine ⟨.ref a, h1, .inl ⟨rfl, vs, SqL.of h2⟩, H0, B, A, ρ, c, _, S, q, w, fun d c1 v H1 ⟨es, ed, hl, w1⟩ s1 q1 r1 => ?_⟩
    subst ed
    have n : a ≠ p := by
      obtain ⟨hp, H2, _, S2⟩ := S
      obtain ⟨b, g1, g2⟩ := S2.own i _ e5
      rw [h1] at g1; cases g1
      exact fun z => g2 (z ▸ hp)
    have h2' := s1 _ _ (fun z => n (List.mem_singleton.mp z)) h2
    obtain ⟨b, ws, rfl, nb, hb, rb⟩ := r1
    refine ⟨a, b, vs, ws, rfl, rfl, h2', hb, by rw [h3.length, rb.length, sizeLine_eq]; omega, ?_⟩
    have sx : SameX A H1 (upd H1 a (.lst (vs ++ ws))) := fun b o n e => by
      rw [upd_ne fun z : b = a => n (by rw [z]; exact aA)]
      exact e
    obtain ⟨t, S', _⟩ := (S.step s1 q1).own_upd (d' := .lst (ds ++ es)) (u := .lst (vs ++ ws)) e5 h1 rfl ⟨_, upd_same, ((h3.mv S.mem s1).append rb).ext sx⟩
    exact k _ c1 w1 A σ _ ((Step.p S.mem s1).trans t) S' (q1.other n)
/-! ### for -/
def loopX (b : D → Rho → Option Rho) (F : TSt) : List D → TSt
  | [], ρ, c, P => P (.nx ρ) c
  | d :: ds, ρ, c, P => ∃ ρ1, b d ρ = some ρ1 ∧ F ρ1 c fun o c1 => match o with
    | .nx ρ2 => loopX b F ds ρ2 c1 P
    | .ct ρ2 => loopX b F ds ρ2 c1 P
    | .bk ρ2 => P (.nx ρ2) c1
    | .ret d => P (.ret d) c1
def xFor (gi : TDenL) (b : D → Rho → Option Rho) (F : TSt) : TSt := fun ρ c P => gi ρ c fun ds c1 => loopX b F ds ρ c1 P
theorem xs_for {tg iter : Expr} {body : List Stmt} {pos : Pos} {is : List Nat} {gi : TDenL} {b : D → Rho → Option Rho} {F : TSt} (hp : PassesOwn (model X.prog X.w) X.A X.env X.xe) (hc : X.calm = true) (hi : XI X p tg iter gi) (hg : QG X tg is b) (hb : XSs X p body F)
    (hs : ∀ x, foldedSetIterable iter X.env x = pure x := by intro _; rfl) : XS X p (.For tg iter body [] pos) (xFor gi b F) :=
  (ps_for hp hc hi hg hb hs).imp fun E σ H ⟨H0, B, A, ρ, c, P, S, q, w, k⟩ => by
    refine ⟨H0, B, A, ρ, c, _, S, q, w, fun ds c1 J H1 w1 s1 q1 W => ?_⟩
    obtain ⟨n, G, Y, wk, hn, hG, hY⟩ := W.ex
    have k1 : ∀ o c', P o c' → OutX p H0 B A H1 E o c' := fun o c' po => (k o c' po).step (Step.p S.mem s1)
    refine for_it wk (fun i σ' H' => ∃ A' ρ' ci, Step A H1 A' H' ∧ SimP p H0 B A' H' σ' ρ' ∧ PotAt H' p ci ∧ loopX b F (ds.drop i) ρ' ci P) ⟨A, ρ, c1, Step.refl _ _, S.step s1 q1, q1, by rw [List.drop_zero]; exact w1⟩ (fun i σ' H' _ ⟨A', ρ', ci, st, _⟩ => hG H' st.1) ?_ ?_
    · rintro i x σ' H' H2 hi ⟨A', ρ', ci, st, S', pc, el⟩ y
      obtain ⟨s2, d, d1, d2⟩ := hY A' i H' x H2 st.2 S'.muts st.1 hi y
      have hx : ds.drop i = d :: ds.drop (i + 1) := by
        obtain ⟨hlt, e⟩ := List.getElem?_eq_some_iff.mp d1
        rw [List.drop_eq_getElem_cons hlt, e]
      rw [hx, loopX] at el
      obtain ⟨ρ1, g1, el⟩ := el
      obtain ⟨hpB, H3, e3, S3⟩ := S'
      refine ⟨H3, B, A', ρ', d, ρ1, S3.ext s2, d2, g1, fun σ1 l1 f1 S1 => ?_⟩
      refine ⟨H0, B, A', ρ1, ci, _, ⟨hpB, H3, e3, S1⟩, pc.ext s2, el, fun o1 c2 w2 => ?_⟩
      have st2 : Step A H1 A' H2 := st.trans (Step.of s2)
      cases o1 with
      | nx ρ2 => exact fun A3 σ3 H4 t S3 q3 => ⟨A3, ρ2, c2, st2.trans t, S3, q3, w2⟩
      | ct ρ2 => exact fun A3 σ3 H4 t S3 q3 => ⟨A3, ρ2, c2, st2.trans t, S3, q3, w2⟩
      | bk ρ2 => exact fun A3 σ3 H4 t S3 q3 => k1 _ c2 w2 A3 σ3 H4 (st2.trans t) S3 q3
      | ret d => exact k1 _ c2 w2
    · rintro σ' H' ⟨A', ρ', ci, st, S', pc, el⟩
      have : ds.drop n = [] := by rw [hn]; exact List.drop_length
      rw [this] at el
      exact k1 _ ci el A' σ' H' st S' pc
/-! ### the rule for a def that draws -/
end
theorem fn_x {CX : CXT} {P : Program} {w : World} {K : PySem.W.Frag} {mg : Str → Option Value} {base : Heap} {x qual : Str} {params : Arguments} {body : List Stmt} {scope : Scope} {dvs : List V} {kws : List (Str × V)} {f : Addr} {fd : FuncData} {N ps : List Str} {k : Nat} {R : List D → Nat → (D → Nat → Prop) → Prop} {G : Addr → TSt}
    (Fd : FunD K x qual params body scope dvs kws f fd) (S : FnScope N ps scope) (hF : ∀ p ds c Q, R ds c Q → ds.length + 1 = ps.length ∧ G p (rho0 N.length (.raw (.ref p) :: ds)) c fun o c' => ∃ d, outD o = some d ∧ Q d c')
    (hb : ∀ (p : Addr) (cdv : Value) (A : Around) (outer : List Env) (s : Shared) (H : Hp) (E : XK), Room k (A.deeper (envOfC qual scope s.heap.objs.size f cdv)) → XSs (cxOf CX P w K mg base N qual scope f cdv A outer s H E).nox p body (G p)) : FnOk P w K mg base CX (k + 1) f fd ps (spX R) := by
  refine Fd.ok S (fun vs H Q E h => ?_) (fun cdv A outer s H vs Q E hr h => ?_)
  · obtain ⟨p, A, ds, us, c, P, rfl, _, _, _, r, h, _⟩ := h
    rw [List.length_cons, r.length, (hF p ds c P h).1]
  · obtain ⟨p, A', ds, us, c, P, rfl, hp, q, m, r, h, kk⟩ := h
    obtain ⟨_, h2⟩ := hF p ds c P h
    refine ⟨_, (hb p cdv A outer s H E hr).nox, H, A', A', rho0 N.length (.raw (.ref p) :: ds), c, _, ⟨hp, H, fun _ _ => rfl, sim0 N m ⟨.ref p, us, rfl, rfl, r⟩⟩, q, h2, fun o c' po => ?_⟩
    obtain ⟨d, e2, pd⟩ := po
    cases o with
    | nx ρ =>
      cases e2
      exact fun A2 σ2 H2 t S2 q2 => kk _ c' .non H2 pd S2.same q2 rfl
    | ret d2 =>
      cases e2
      exact fun v H2 s2 q2 r2 => kk _ c' v H2 pd s2 q2 r2
    | bk _ => cases e2
    | ct _ => cases e2
end LY
set_option Elab.async false
set_option linter.all false
set_option maxRecDepth 100000
set_option maxHeartbeats 1000000
/-! LY14: the rules in the form that the printed terms use; what is known of a module -/
namespace LY
open PySem PySem.Spec PyProof.Rows L2
/-- the built-in names are not shadowed -/
structure Mg (mg : Str → Option Value) : Prop where
  len : mg "len" = none
  tuple : mg "tuple" = none
  list : mg "list" = none
  isinstance : mg "isinstance" = none
  str : mg "str" = none
  int : mg "int" = none
  all : mg "all" = none
  any : mg "any" = none
  range : mg "range" = none
  enumerate : mg "enumerate" = none
  max : mg "max" = none
  min : mg "min" = none
  sum : mg "sum" = none
  sorted : mg "sorted" = none
  repr : mg "repr" = none
  dict : mg "dict" = none
  abs : mg "abs" = none
  zip : mg "zip" = none
  bool : mg "bool" = none
/-- a def of the module, as it stands -/
structure DefF (K : PySem.W.Frag) (mg : Str → Option Value) (x : Str) (st : Stmt) : Prop where
  ex : ∃ (f : Addr) (fd : FuncData), mg x = some (.ref f) ∧ FunD K x x (defArgs st) (defBody st) (defScope st) [] [] f fd
theorem binds_of {K : PySem.W.Frag} {x qual : Str} {params : Arguments} {body : List Stmt} {scope : Scope} {f : Addr} {fd : FuncData} {ps : List Str} (F : FunD K x qual params body scope [] [] f fd)
    (h : ∀ (kV doc pm : Value) (an : Option Addr) (cdv ct : Value) (us : List Value), us.length = ps.length → bindArgs (PySem.W.fnOf x qual params body scope .none kV doc pm an cdv ct) ⟨us, []⟩ = pure (ps.zip us)) : Binds K fd ps [] := by
  obtain ⟨oc, od, dV, kV, doc, pm, an, cdv, ct, osl, rfl, lk, hcd, hd, _⟩ := F.ex
  rcases hd with ⟨_, rfl⟩ | ⟨h, _⟩
  · exact .all (h kV doc pm an cdv ct)
  · exact absurd rfl h
theorem kbinds_of {K : PySem.W.Frag} {x qual : Str} {params : Arguments} {body : List Stmt} {scope : Scope} {f : Addr} {fd : FuncData} {ps : List Str} (F : FunD K x qual params body scope [] [] f fd)
    (h : ∀ (kV doc pm : Value) (an : Option Addr) (cdv ct : Value) (ws : List Value), ws.length = ps.length → bindArgs (PySem.W.fnOf x qual params body scope .none kV doc pm an cdv ct) ⟨[], ps.zip ws⟩ = pure (ps.zip ws)) :
    ∀ (s : Shared) (ws : List Value), ws.length = ps.length → BindsTo s fd ⟨[], ps.zip ws⟩ (ps.zip ws) := by
  obtain ⟨oc, od, dV, kV, doc, pm, an, cdv, ct, osl, rfl, lk, hcd, hd, _⟩ := F.ex
  rcases hd with ⟨_, rfl⟩ | ⟨h, _⟩
  · intro s ws hl
    exact BindsTo.of_looks fun M => PySem.W.Looks.of_pure (h kV doc pm an cdv ct ws hl)
  · exact absurd rfl h
section
variable {P : Program} {w : World} {K : PySem.W.Frag} {mg : Str → Option Value} {base : Heap} {k : Nat} {x : Str} {st : Stmt} {ps : List Str} {sp : Sp}
theorem DefF.fn (Df : DefF K mg x st) (hb : ∀ (kV doc pm : Value) (an : Option Addr) (cdv ct : Value) (us : List Value), us.length = ps.length → bindArgs (PySem.W.fnOf x x (defArgs st) (defBody st) (defScope st) .none kV doc pm an cdv ct) ⟨us, []⟩ = pure (ps.zip us))
    (h : ∀ f fd, FunD K x x (defArgs st) (defBody st) (defScope st) [] [] f fd → FnOk P w K mg base L2.CX0 k f fd ps sp) : Fn P w K mg base k x sp := by
  obtain ⟨f, fd, h1, F⟩ := Df.ex
  exact ⟨⟨f, fd, ps, h1, h f fd F, F.kp, binds_of F hb⟩⟩
/-- it may be called by the keywords, all of them, in their order, too -/
theorem DefF.kw (Df : DefF K mg x st) (hb : ∀ (kV doc pm : Value) (an : Option Addr) (cdv ct : Value) (ws : List Value), ws.length = ps.length → bindArgs (PySem.W.fnOf x x (defArgs st) (defBody st) (defScope st) .none kV doc pm an cdv ct) ⟨[], ps.zip ws⟩ = pure (ps.zip ws))
    (h : ∀ f fd, FunD K x x (defArgs st) (defBody st) (defScope st) [] [] f fd → FnOk P w K mg base L2.CX0 k f fd ps sp) (hlen : ∀ vs H Q E, sp vs H Q E → vs.length = ps.length) : ∃ (f : Addr) (fd : FuncData), mg x = some (.ref f) ∧ FnOk P w K mg base L2.CX0 k f fd ps sp ∧ PySem.W.keepIn K (.ref f) = true ∧
      ∀ (s : Shared) (ws : List Value), ws.length = ps.length → BindsTo s fd ⟨[], ps.zip ws⟩ (ps.zip ws) := by
  obtain ⟨f, fd, h1, F⟩ := Df.ex
  exact ⟨f, fd, h1, h f fd F, F.kp, kbinds_of F hb⟩
end
section
variable {X : Cx}
theorem qn (i : Nat) {x : Str} {pos : Pos} (hN : X.N[i]? = some x := by rfl) (hv : Vis X.env.scope x := by first | exact Or.inl rfl | exact Or.inr (Or.inl rfl) | exact Or.inr (Or.inr rfl)) (hd : (x == ("__debug__" : Str)) = false := by decide) (hcd : (x == ("__classdict__" : Str)) = false := by decide) : QE X (.Name x pos) (dName i) := q_name hN hv hd hcd
theorem vn (i : Nat) {x : Str} {pos : Pos} (hN : X.N[i]? = some x := by rfl) (hv : Vis X.env.scope x := by first | exact Or.inl rfl | exact Or.inr (Or.inl rfl) | exact Or.inr (Or.inr rfl)) (hd : (x == ("__debug__" : Str)) = false := by decide) (hcd : (x == ("__classdict__" : Str)) = false := by decide) : QV X (.Name x pos) (dNameV i) := v_name hN hv hd hcd
/-- -x -/
def fNeg (d : D) : Option D := match d with
  | .int i => some (.int (-i))
  | _ => none
theorem q_neg {e : Expr} {g : Den} {pos : Pos} (he : QE X e g) : QE X (.UnaryOp .USub e pos) (d1 fNeg g) :=
  (pe_un un_neg he).imp fun σ H Q ⟨H0, B, A, ρ, d, S, q, k⟩ => by
    obtain ⟨x, e1, e2⟩ := bind1 q
    unfold fNeg at e2
    split at e2
    · cases e2
      exact ⟨H0, B, A, ρ, _, S, e1, fun v H1 s1 r1 => ⟨_, r1, k _ H1 s1 rfl⟩⟩
    · cases e2
end
end LY
set_option Elab.async false
set_option linter.all false
set_option maxRecDepth 100000
set_option maxHeartbeats 2000000
/-! LY15: enumerate over a tuple; list(d.values()) -/
namespace PySem
open Sem (wp)
open AutoSeq1 (wpAny_loadPart')
theorem ly_meets_enumerate_newT (l : Addr) (items : Array Value) (n : Nat) (dct : Option Addr) (sl : Array (Option Value)) :
    Meets (Builtin.«enumerate.__new__» ⟨[.type "enumerate", .ref l], []⟩) (fun _ R s => s.heap.get? l = some { cls := .type "tuple", dict := dct, data := .seq items n, slots := sl } ∧
      R (.ok (.ret (.ref (s.heap.push { cls := .type "tuple_iterator", data := .fields #[.ref l, .int 0 0] }).objs.size)))
        { s with heap := (s.heap.push { cls := .type "tuple_iterator", data := .fields #[.ref l, .int 0 0] }).push { cls := .type "enumerate", data := .fields #[.none, .bool false, .ref s.heap.objs.size, rawInt 0, .none, .none] } }) :=
  .of_wp fun prog w A R s h => by
    obtain ⟨hp, g, d, tk, os⟩ := s; obtain ⟨hl, h⟩ := h
    have hsub := sub_enumerate
    have hL : Heap.IsTuple (Shared.heap ⟨hp, g, d, tk, os⟩) l items := ⟨_, hl, rfl, n, rfl⟩
    wp_walk using wpAny_loadPart' hl
    refine wpAny_stack_any fun st => wpAny_pure ?_
    split
    · rename_i c _ _ _ _ _
      cases (c == Value.type "enumerate")
      · wp_walk using wpAny_loadPart' hl, wpAny_pyIter_tuple hL
        exact ⟨_, rfl, h⟩
      · wp_walk using wpAny_loadPart' hl, wpAny_pyIter_tuple hL
        exact ⟨_, rfl, h⟩
    · wp_walk using wpAny_loadPart' hl, wpAny_pyIter_tuple hL
      exact ⟨_, rfl, h⟩
section
variable {prog : Program} {w : World} {A : Around} {E : Value → Shared → Prop} {s : Shared}
theorem ly_call_enumerate_tuple {l : Addr} {items : Array Value} {Q : Value → Shared → Prop} (hL : s.heap.IsTuple l items)
    (h : ∀ h', IsEnum h' (s.heap.objs.size + 1) s.heap.objs.size 0 .none → h'.IsTupleIter s.heap.objs.size l 0 → h'.objs.size = s.heap.objs.size + 2 →
      (∀ b o, s.heap.get? b = some o → h'.get? b = some o) → Q (.ref (s.heap.objs.size + 1)) { s with heap := h' }) :
    wpAny (model prog w) A (call (.type "enumerate") [.ref l]) Q E s := by
  obtain ⟨⟨c, dct, dt, sl⟩, hl, hc, n, hd⟩ := hL
  replace hc : c = .type "tuple" := hc
  replace hd : dt = .seq items n := hd
  subst hc hd
  refine callType_new F.called_enumerate (by decide) (F.typeCall_enumerate_1 _) (F.newCall_enumerate_1 _) (fun obj => F.args_object_init_2 obj _) F.entry_enumerate_new
    (ly_meets_enumerate_newT l items n dct sl) ⟨hl, ?_⟩
  have hz : (s.heap.push { cls := .type "tuple_iterator", data := .fields #[.ref l, .int 0 0] }).objs.size = s.heap.objs.size + 1 := Heap.size_push ..
  show _ ∧ _
  rw [hz]
  have he : IsEnum ((s.heap.push { cls := .type "tuple_iterator", data := .fields #[.ref l, .int 0 0] }).push
      { cls := .type "enumerate", data := .fields #[.none, .bool false, .ref s.heap.objs.size, rawInt 0, .none, .none] }) (s.heap.objs.size + 1) s.heap.objs.size 0 .none := by
    have := Heap.get?_push_size (s.heap.push { cls := .type "tuple_iterator", data := .fields #[.ref l, .int 0 0] })
      (o := { cls := .type "enumerate", data := .fields #[.none, .bool false, .ref s.heap.objs.size, rawInt 0, .none, .none] }) rfl
    rw [hz] at this; exact this
  refine ⟨⟨_, he, rfl⟩, h _ he ⟨_, Heap.get?_push_of_some _ (Heap.get?_push_size _ rfl), rfl, rfl⟩ (by rw [Heap.size_push, hz]) fun b o x => Heap.get?_push_of_some _ (Heap.get?_push_of_some _ x)⟩
end
end PySem
namespace LY
open PySem PySem.Spec PyProof.Rows L2
/-- the tuple at a as it stands at each turn, each item in a new pair -/
def IteT (K : PySem.W.Frag) (a : Addr) : It :=
  ⟨fun i H => ∃ (xs : List V) (x : V), SqT K H a xs ∧ xs[i]? = some x, fun i H v H' => ∃ T x o, v = .ref T ∧ H T = none ∧ o.dict = none ∧ H' = upd H T (.frz o (.tup [.int (i : Nat), x])) ∧ ∀ xs, SqT K H a xs → xs[i]? = some x, fun i H => ∃ xs : List V, SqT K H a xs ∧ xs.length ≤ i⟩
theorem turn_enumT {P : Program} {w : World} {K : PySem.W.Frag} {elts : List Expr} {kk : Nat} {tpos : Pos} (a e it : Addr) (hai : a ≠ it) (hae : a ≠ e) :
    Turn P w K (.Tuple elts kk tpos) (IteT K a) [e, it] e (fun i h => (∃ old, IsEnum h e it ((i : Nat) : Int) old) ∧ h.IsTupleIter it a i ∧ e ≠ it) where
  mem := by simp
  obj := fun i h st b hb => by
    obtain ⟨⟨old, he⟩, ⟨o, ho, hc, hd⟩, _⟩ := st
    have e' : b = e ∨ b = it := by simpa using hb
    rcases e' with z | z
    · rw [z]; exact ⟨_, he, fun v q => nomatch q⟩
    · rw [z]; exact ⟨o, ho, fun v q => by rw [hd] at q; cases q⟩
  keep := fun i h h' st k => let ⟨⟨old, he⟩, hi, hne⟩ := st; ⟨⟨old, k e (by simp) _ he⟩, hi.at fun o q => k it (by simp) o q, hne⟩
  item := by
    intro X hP hw hK hc i pins s σ H E I hf st hg
    subst hP hw hK
    obtain ⟨⟨old, he⟩, hit, hne⟩ := st
    obtain ⟨xs, x, hq, hx⟩ := hg
    obtain ⟨its, rv, p, hz⟩ := I.tuple hq
    have hlen := rv.length
    have hilt : i < its.toArray.size := by
      rw [List.size_toArray, ← hlen]
      exact (List.getElem?_eq_some_iff.mp hx).1
    have hel : e < s.heap.objs.size := Heap.lt_size he
    have hil : it < s.heap.objs.size := by obtain ⟨_, q, _⟩ := hit; exact Heap.lt_size q
    refine wpAny_pyNext_enum_itemD (PySem.Draws.tuple (A := X.A.in1) (I.ok.hd hc) it a hai its.toArray) he ⟨hit, p⟩ hilt hne (by simp; exact ⟨hne, fun z => hae z.symm⟩) fun u h' tk hu ho hst' hT hsz hk => ?_
    obtain ⟨u', hu', ru⟩ := rv.get hx
    have huu : u = u' := by
      have h1 : its[i]? = some u := by simpa using hu
      rw [hu'] at h1
      exact (Option.some.inj h1).symm
    subst huu
    refine ⟨_, rfl, wpAny_letOwnedTupleGo_enum (s := { s with heap := h', toks := tk + 1 }) ho fun h'' he' sb => ?_⟩
    have hT2 : h''.get? s.heap.objs.size = some { cls := .type "tuple", data := .seq #[.int i tk, u] } := (sb.2 _ (Nat.ne_of_gt hel)).trans hT
    have new : ObjOk X.prog X.w (upd H s.heap.objs.size (.frz { cls := .type "tuple", data := .seq #[.int i tk, u] } (.tup [.int (i : Nat), x]))) h'' s.heap.objs.size (.frz { cls := .type "tuple", data := .seq #[.int i tk, u] } (.tup [.int (i : Nat), x])) :=
      ⟨hT2, by show 2 ≤ sizeLine; decide, [.int i tk, u], .cons ⟨_, rfl⟩ (.cons ru .nil), ⟨_, hT2, rfl, _, rfl⟩⟩
    have I1 : Inv X pins σ (upd H s.heap.objs.size (.frz { cls := .type "tuple", data := .seq #[.int i tk, u] } (.tup [.int (i : Nat), x]))) { s with heap := h'', toks := tk + 1 } :=
      I.turnedNew (ch := [e, it]) (fun b ob hb q => (sb.2 b (fun z => hb (by simp [z]))).trans (hk b ob (fun z => hb (by simp [z])) (fun z => hb (by simp [z])) q)) hf (Nat.le_refl _) new
    refine ⟨.ref s.heap.objs.size, _, I1, rfl, ⟨_, x, _, rfl, I.hok.fresh (Nat.le_refl _), rfl, rfl, fun ys hy => by rw [I.tuple_inj hy hq]; exact hx⟩, ⟨⟨u, ?_⟩, hst'.1.at fun o q => (sb.2 it (Ne.symm hne)).trans q, hne⟩, fun b hb => ?_⟩
    · have e1 : ((i + 1 : Nat) : Int) = (i : Int) + 1 := by omega
      rw [e1]; exact he'
    · have hb' : b < s.heap.objs.size := by
        have e' : b = e ∨ b = it := by simpa using hb
        rcases e' with z | z
        · rw [z]; exact hel
        · rw [z]; exact hil
      rw [upd_ne (Nat.ne_of_lt hb')]
      exact (hf b hb).1
  done := by
    intro X hP hw hK hc i pins s σ H E I hf st hg
    subst hP hw hK
    obtain ⟨⟨old, he⟩, hit, hne⟩ := st
    obtain ⟨xs, hq, hx⟩ := hg
    obtain ⟨its, rv, p, hz⟩ := I.tuple hq
    obtain ⟨f0, f1, f2, f3, f4, f5⟩ := hf it (by simp)
    have hl := rv.length
    have hge : its.toArray.size ≤ i := by simp; omega
    have hT : s.TypeIs (.ref e) "enumerate" := ⟨_, he, rfl⟩
    unfold pyNext
    refine wpAny_bind (wpAny_attempt (wpAny_callSpecial?_slot (name := Str.ofString "__next__") hT F.slot_enumerate_next
      (wpAny_call_entry F.slot_enumerate_next hT F.entry_enumerate_next ?_ (F.args_enumerate_next_1 _))))
    show wpAny _ _ (field (.ref e) 2 >>= _) _ _ _
    refine wpAny_bind (wpAny_field he rfl (x := .ref it) rfl ?_)
    refine wpAny_bind (PySem.wpAny_nextOf_tuple_end (I.ok.hd hc) hit p (Array.getElem?_eq_none hge) fun h' x he' hx' => ?_)
    obtain ⟨o, ho, hc'⟩ := hx'
    refine wpAny_bind (wpAny_isInstance (T := "StopIteration") (b := true) ⟨o, ho, hc'⟩ isSubtype_stop ?_)
    exact wpAny_pure ⟨rfl, I.turned (t' := s.toks) (fun b o hb q => he' b o hb q) f0 f1 f3 f4 f5⟩
  self := fun A i s Q E st h => let ⟨⟨_, he⟩, _⟩ := st; wpAny_pyIter_enum he h
theorem walk_enumT {K : PySem.W.Frag} {a : Addr} {xs : List V} : Walk (IteT K a) xs.length (fun H => SqT K H a xs) (YPairS (fun i => some (.int (i : Nat))) (fun i => xs[i]?)) := by
  refine ⟨fun i _ hi q => ⟨xs, xs[i], q, by simp [hi]⟩, fun _ q => ⟨xs, q, Nat.le_refl _⟩, fun i H v H' _ q y => ?_⟩
  obtain ⟨T, x, o, h1, h2, h0, h3, h4⟩ := y
  exact ⟨T, .int (i : Nat), x, o, h1, h2, h0, h3, rfl, h4 xs q⟩
theorem wk_enumT {K : PySem.W.Frag} {Rel : Hp → Prop} {A : List Addr} {Hs : Hp} {a : Addr} {ds : List D} {vs : List V} (r : RpL A Hs ds vs) (g : ∀ H, Rel H → SqT K H a vs) (rel : ∀ H, Rel H → SameX A Hs H) : WkD Rel A Hs (IteT K a) (enumD ds) := by
  have hl := r.length
  refine wk_pair (w := walk_enumT (K := K) (a := a) (xs := vs)) g rel (fun i x hi e => ?_) (fun i x hi e => ?_) ?_
  · cases e
    have h2 : i < ds.length := hl ▸ hi
    exact ⟨.int (0 + (i : Nat)), by simp [rangeD, h2], by simp [Rp]⟩
  · exact r.getv e
  · simp [rangeD, hl]
/-- enumerate over a list or a tuple -/
def iEnumA (K : PySem.W.Frag) (ta : TA) : TI := fun σ H R => ta σ H fun vs H1 => (∃ a xs, vs = [.ref a] ∧ SqL K H1 a xs ∧ R (IteS K a) H1) ∨ (∃ a xs, vs = [.ref a] ∧ SqT K H1 a xs ∧ R (IteT K a) H1)
theorem pi_enumA {X : Cx} {e : Expr} {ta : TA} {p pos tpos : Pos} {elts : List Expr} {kk : Nat} (hg : Gl X "enumerate") (hm : X.mg "enumerate" = none) (ha : PA X [e] ta) (hs : starEach [e] X.env = [(false, eval e X.env)] := by rfl) :
    PI X (.Tuple elts kk tpos) (.Call (.Name "enumerate" p) [e] [] pos) (iEnumA X.K ta) := by
  refine ⟨fun pins s σ H R I h => ?_⟩
  refine Call_ (ld_blt I hg hm boot_enumerate (PyProof.Rows.callWith_type1 (thn (ha.run pos pins s σ H _ I h) fun us s1 ⟨vs, H1, I1, r1, q1⟩ => ?_) hs rfl))
  rcases q1 with ⟨a, xs, ex, hq, q⟩ | ⟨a, xs, ex, hq, q⟩
  · subst ex
    cases r1 with
    | cons r rr =>
      cases rr
      cases r
      obtain ⟨its, rv, p', hz⟩ := I1.list hq
      refine call_enumerate_list p'.isList fun h' he hit hsz hk => wpAny_pyIter_enum he ?_
      have I2 : Inv X pins σ H1 { s1 with heap := h' } := I1.kept (t' := s1.toks) hk
      refine ⟨s1.heap.objs.size + 1, [s1.heap.objs.size + 1, s1.heap.objs.size], _, _, H1, rfl, I2, turn_enumS a (s1.heap.objs.size + 1) s1.heap.objs.size, ⟨⟨.none, he⟩, hit, Nat.succ_ne_self _⟩, fun b hb => ?_, q⟩
      have e' : b = s1.heap.objs.size + 1 ∨ b = s1.heap.objs.size := by simpa using hb
      have hle : s1.heap.objs.size ≤ b := by
        rcases e' with z | z
        · rw [z]; exact Nat.le_add_right _ _
        · rw [z]; exact Nat.le_refl _
      exact I1.fpOk hle (I1.hok.fresh hle)
  · subst ex
    cases r1 with
    | cons r rr =>
      cases rr
      cases r
      obtain ⟨its, rv, p', hz⟩ := I1.tuple hq
      have hlt : a < s1.heap.objs.size := p'.lt
      refine ly_call_enumerate_tuple (show s1.heap.IsTuple a its.toArray from p') fun h' he hit hsz hk => wpAny_pyIter_enum he ?_
      have I2 : Inv X pins σ H1 { s1 with heap := h' } := I1.kept (t' := s1.toks) hk
      refine ⟨s1.heap.objs.size + 1, [s1.heap.objs.size + 1, s1.heap.objs.size], _, _, H1, rfl, I2, turn_enumT a (s1.heap.objs.size + 1) s1.heap.objs.size (Nat.ne_of_lt hlt) (Nat.ne_of_lt (Nat.lt_succ_of_lt hlt)), ⟨⟨.none, he⟩, hit, Nat.succ_ne_self _⟩, fun b hb => ?_, q⟩
      have e' : b = s1.heap.objs.size + 1 ∨ b = s1.heap.objs.size := by simpa using hb
      have hle : s1.heap.objs.size ≤ b := by
        rcases e' with z | z
        · rw [z]; exact Nat.le_add_right _ _
        · rw [z]; exact Nat.le_refl _
      exact I1.fpOk hle (I1.hok.fresh hle)
section
variable {X : Cx}
def dEnumA (g : Den) : Rho → Option (List D) := fun ρ => (g ρ).bind fun d => d.items.map enumD
theorem qiv_enum {e : Expr} {g : Den} {p pos tpos : Pos} {elts : List Expr} {kk : Nat} (hg : Gl X "enumerate") (hm : X.mg "enumerate" = none) (h : QV X e g) (hs : starEach [e] X.env = [(false, eval e X.env)] := by rfl) :
    QIV X (.Tuple elts kk tpos) (.Call (.Name "enumerate" p) [e] [] pos) (dEnumA g) :=
  (pi_enumA hg hm (qlv_one h hs) hs).imp fun σ H Q ⟨H0, B, A, ρ, ds, S, q, k⟩ => by
    obtain ⟨x, e1, e2⟩ := bind1 q
    rw [Option.map_eq_some_iff] at e2
    obtain ⟨xs, e3, rfl⟩ := e2
    refine ⟨H0, B, A, ρ, [x], S, by simp [dCons, dNil, e1], fun vs H1 s1 r1 => ?_⟩
    obtain ⟨v, rr, rfl, r2, r3⟩ := r1
    rw [show rr = [] from r3]
    rcases D.items_lst e3 with rfl | rfl
    · obtain ⟨a, vs, rfl, ha, r⟩ := r2.lst
      exact .inl ⟨a, vs, rfl, ha.sq, k _ H1 s1 (wk_enum r (fun H s => (ha.x (A := []) s.x (by simp)).sq) fun _ s => Sm.x s)⟩
    · obtain ⟨a, vs, rfl, na, ha, r⟩ := r2.tup
      exact .inr ⟨a, vs, rfl, ha.sq, k _ H1 s1 (wk_enumT r (fun H s => (ha.x (A := []) s.x (by simp)).sq) fun _ s => Sm.x s)⟩
theorem qi_enum {e : Expr} {g : Den} {p pos tpos : Pos} {elts : List Expr} {kk : Nat} (hg : Gl X "enumerate") (hm : X.mg "enumerate" = none) (h : QE X e g) (hs : starEach [e] X.env = [(false, eval e X.env)] := by rfl) :
    QI X (.Tuple elts kk tpos) (.Call (.Name "enumerate" p) [e] [] pos) (dEnumA g) :=
  (pi_enumA hg hm (ql_cons h ql_nil (by rw [hs]; rfl)) hs).imp fun σ H Q ⟨H0, B, A, ρ, ds, S, q, k⟩ => by
    obtain ⟨x, e1, e2⟩ := bind1 q
    rw [Option.map_eq_some_iff] at e2
    obtain ⟨xs, e3, rfl⟩ := e2
    refine ⟨H0, B, A, ρ, [x], S, by simp [dCons, dNil, e1], fun vs H1 s1 r1 => ?_⟩
    obtain ⟨v, rr, rfl, r2, r3⟩ := r1
    rw [show rr = [] from r3]
    rcases D.items_lst e3 with rfl | rfl
    · obtain ⟨a, vs, rfl, na, ha, r⟩ := r2
      exact .inl ⟨a, vs, rfl, ha.sq, k _ H1 s1 (wk_enum r (fun H s => (ha.x s na).sq) fun _ s => s)⟩
    · obtain ⟨a, vs, rfl, na, ha, r⟩ := r2
      exact .inr ⟨a, vs, rfl, ha.sq, k _ H1 s1 (wk_enumT r (fun H s => (ha.x s na).sq) fun _ s => s)⟩
end
end LY
set_option Elab.async false
set_option linter.all false
set_option maxRecDepth 100000
set_option maxHeartbeats 2000000
/-! LY16: list(d.values()), max and min of two, list(zip(a, b)) -/
namespace LY
open PySem PySem.Spec PyProof.Rows L2
section
variable {X : Cx}
def tListVals (te : TE) : TE := fun σ H Q => te σ H fun x H1 => ∃ d kvs, x = .ref d ∧ H1 d = some (.dK kvs) ∧ ∀ p, H1 p = none → Q (.ref p) (upd H1 p (.lst (kvs.map (·.2))))
theorem kv_vals : ∀ {kvs : List (Key × V)} {vs : List (Key × Value)}, KV kvs vs → Vals (kvs.map (·.2)) (vs.map (·.2))
  | _, _, .nil => .nil
  | _, _, .cons h t => .cons h.2 (kv_vals t)
theorem pe_listVals {e : Expr} {te : TE} {p pos apos cpos : Pos} (hc : X.calm = true) (he : PE X e te) (hg : Gl X "list") (hm : X.mg "list" = none) (hbase : attributeBase e "values" X.env (eval e X.env) = eval e X.env := by rfl) (hline : (apos.endLine == cpos.line) = true := by rfl)
    (hs : starEach [.Call (.Attribute e "values" apos) [] [] cpos] X.env = (false, eval (.Call (.Attribute e "values" apos) [] [] cpos) X.env) :: starEach [] X.env := by rfl) :
    PE X (.Call (.Name "list" p) [.Call (.Attribute e "values" apos) [] [] cpos] [] pos) (tListVals te) := by
  refine ⟨fun pins s σ H Q I hq => ?_⟩
  refine wpAny_Call_Name_kw (ld_blt I hg hm boot_list ?_)
  refine PyProof.Rows.callWith_type1 ?_ hs rfl
  rw [hs]
  show wpAny _ _ (spliced ((false, eval (.Call (.Attribute e "values" apos) [] [] cpos) X.env) :: backTo pos (starEach [] X.env))) _ _ s
  refine Calls.spliced_cons ?_
  refine wpAny_Call_method (T := "dict") (id := "dict.values") hbase rfl hline F.plainAttrs_dict F.slot_dict_values F.type_dict_values (thn (he.run pins s σ H _ I hq) fun u s1 ⟨x, H1, I1, rx, d, kvs, ex, hd, q⟩ => ?_)
  subst ex
  obtain rfl : u = Value.ref d := rx
  obtain ⟨hz, hs0, vs, kv, hdo⟩ := I1.hok d _ hd
  obtain ⟨ep, hat⟩ := hdo.dictAt
  have lk : kvs.length = vs.length := Paired.length kv
  have I2 : Inv X pins σ H1 { s1 with heap := s1.heap.push { cls := .type "dict_values", data := .fields #[.ref d] } } := I1.kept (t' := s1.toks) fun b ob q => Heap.get?_push_of_some _ q
  refine ⟨hdo.typeIs, hdo.mapOf.noDict, ?_⟩
  show wpAny _ _ (callWith cpos (.builtin "dict.values") [.ref d] [] []) _ X.xe s1
  refine method_meetsIn F.slot_dict_values F.entry_dict_values rfl (PySem.evalArgs_none ⟨rfl, hdo.typeIs, F.args_dict_values_1 _, _, meets_dict_values (mixKind X.prog X.w) d hs0, ⟨vs, hdo⟩, ?_⟩)
  refine Calls.spliced_nil ?_
  refine PySem.W.kdl_call (PySem.W.kdl_values (knd := mixKind X.prog X.w) (kvs := vs) (ep := ep)) (I1.ok.hd hc) ⟨⟨_, Heap.get?_push_size _ rfl, rfl, rfl⟩, hat.push _⟩ (by omega) fun h' tk acc c hk hS hacc => ?_
  have hacc' : acc.toList = vs.map (·.2) := by
    refine List.ext_getElem? fun j => ?_
    have hsz := hacc.1
    by_cases hj : j < vs.length
    · have hja : j < acc.size := by omega
      obtain ⟨k, hk'⟩ := hacc.2 j acc[j] (by simp [hja])
      rw [List.getElem?_map, hk']
      simp [hja]
    · rw [List.getElem?_eq_none (by simp; omega), List.getElem?_eq_none (by simp; omega)]
  have kk : ∀ b u, s1.heap.get? b = some u → h'.get? b = some u := fun b u e => hk b u (Heap.get?_push_of_some _ e)
  have hsz2 : (s1.heap.push { cls := .type "dict_values", data := .fields #[.ref d] }).objs.size = s1.heap.objs.size + 1 := Heap.size_push _ _
  have hln : (kvs.map (·.2)).length ≤ sizeLine := by rw [List.length_map]; omega
  refine ⟨.ref _, upd H1 _ (.lst (kvs.map (·.2))), I1.laid (a := (s1.heap.push { cls := .type "dict_values", data := .fields #[.ref d] }).objs.size) (t' := tk) kk (by rw [hsz2]; exact Nat.le_succ _) ⟨hln, acc.toList, c, by rw [hacc']; exact kv_vals kv, by rw [Array.toArray_toList]; exact hS⟩, rfl, q _ (I1.hok.fresh (by rw [hsz2]; exact Nat.le_succ _))⟩
def dVals (g : Den) : Rho → Option (List D) := fun ρ => (g ρ).bind fun d => match d with
  | .dic kvs => some (kvs.map (·.2))
  | _ => none
theorem RpK.vals {A : List Addr} {H : Hp} : ∀ {ds : List (Key × D)} {vs : List (Key × V)}, RpK A H ds vs → RpL A H (ds.map (·.2)) (vs.map (·.2))
  | [], _, h => by rw [show _ = [] from h]; rfl
  | (j, x) :: ds, _, h => by
    obtain ⟨v, r, rfl, h1, h2⟩ := h
    exact ⟨v, _, rfl, h1, h2.vals⟩
theorem Vw.dicO {K : PySem.W.Frag} {A : List Addr} {H : Hp} {v : V} {i : Nat} {kvs : List (Key × D)} (h : Vw A H (.dic kvs) v) (n : ∀ a o, v = .ref a → H a ≠ some (.frz o (.dK []))) : True := True.intro
/-- of an owned dict -/
def oVals (i : Nat) : Rho → Option (List D) := fun ρ => (oDic i ρ).bind fun kvs => some (kvs.map (·.2))
theorem f_values {i : Nat} {x : Str} {p pos apos cpos xp : Pos} (hc : X.calm = true) (hg : Gl X "list") (hm : X.mg "list" = none) (hN : X.N[i]? = some x) (hv : Vis X.env.scope x)
    (hd : (x == ("__debug__" : Str)) = false := by decide) (hcd : (x == ("__classdict__" : Str)) = false := by decide)
    (hbase : attributeBase (.Name x xp) "values" X.env (eval (.Name x xp) X.env) = eval (.Name x xp) X.env := by rfl) (hline : (apos.endLine == cpos.line) = true := by rfl)
    (hs : starEach [.Call (.Attribute (.Name x xp) "values" apos) [] [] cpos] X.env = (false, eval (.Call (.Attribute (.Name x xp) "values" apos) [] [] cpos) X.env) :: starEach [] X.env := by rfl) :
    QF X (.Call (.Name "list" p) [.Call (.Attribute (.Name x xp) "values" apos) [] [] cpos] [] pos) (oVals i) :=
  (pe_listVals hc (pe_var hN hv hd hcd) hg hm hbase hline hs).imp fun σ H Q ⟨H0, B, A, ρ, ds, S, q, k⟩ => by
    obtain ⟨kvs, e1, e2⟩ := bind1 q
    cases e2
    obtain ⟨a, h1, aA, vs, h2, h3⟩ := S.sl i _ (oDic_some e1)
    exact ⟨.ref a, h1, a, vs, rfl, h2, fun p hp => k p _ _ (Sm.new hp) hp upd_same ((h3.vals.addNew hp).ext (Sm.new hp).x)⟩
/-! ### max, min of two -/
abbrev fMax2 := fI fun i j => some (.int (if j > i then j else i))
abbrev fMin2 := fI fun i j => some (.int (if j < i then j else i))
end
end LY
set_option Elab.async false
set_option linter.all false
set_option maxRecDepth 100000
set_option maxHeartbeats 2000000
/-! LY17: sum(lists, []) -/
namespace PySem
open Sem (wp)
open Calls
abbrev lyL (xs : List Value) (n : Nat) : Obj := { cls := .type "list", data := .seq xs.toArray n }
section
variable {prog : Program} {w : World} {A : Around} {R : Result → Shared → Prop} {I l S : Addr} {items : List Value}
theorem ly_sum_loop (hh : A.handled = none) (hIl : l ≠ I) (hIS : I ≠ S) (hlS : l ≠ S) (h0 : Heap) :
    ∀ (rest : List (List Value)) (i : Nat) (s : Shared) (cur : Addr) (c cc : Nat) (acc : List Value), i + rest.length = items.length →
    (∀ (j : Nat) (xs : List Value), rest[j]? = some xs → ∃ b c, items[i + j]? = some (Value.ref b) ∧ b ≠ I ∧ b ≠ S ∧ h0.get? b = some (lyL xs c)) →
    s.heap.IsListIter I l i → s.heap.IsList l items.toArray → (∀ b o, b ≠ I → b ≠ S → h0.get? b = some o → s.heap.get? b = some o) →
    s.heap.get? S = some { cls := .type "list", dict := none, data := .seq #[.ref cur] c, slots := #[] } → s.heap.get? cur = some (lyL acc cc) → cur ≠ I → cur ≠ S →
    acc.length + rest.flatten.length ≤ sizeLine →
    (∀ h' tk cur' c', (∀ b o, b ≠ I → b ≠ S → s.heap.get? b = some o → h'.get? b = some o) → h'.get? cur' = some (lyL (acc ++ rest.flatten) c') → (cur' = cur ∨ s.heap.objs.size ≤ cur') → R (.ok (.ret (.ref cur'))) { s with heap := h', toks := tk }) →
    codeAny (model prog w) A (.builtin "sum.loop" ⟨[.ref I, .ref S, rawInt 2, rawInt 0], []⟩) R s := by
  intro rest
  induction rest with
  | nil =>
    intro i s cur c cc acc hlen hval hit hl h0k hS hcur hcI hcS hsz hR
    refine codeAny_builtin F.entry_sum_loop ?_
    rw [Around.under_plainId F.plain_sum_loop _]
    show wpAny _ A.in1 (seqItems? (.ref S) >>= _) _ _ s
    refine wpAny_bind (wpAny_seqItems hS rfl ?_)
    show wpAny _ A.in1 (tryCatch (pyNext (.ref I)) _ >>= _) _ _ s
    have hlen' : i = items.length := by simpa using hlen
    refine wpAny_bind (wpAny_tryCatch (wpAny_pyNext_list_end (A := A.in1) hh hit hl (Array.getElem?_eq_none (by simp; omega)) fun h' hk' => ?_))
    exact wpAny_pure (hR h' s.toks cur cc (fun b o hbw _ e => hk' b o hbw e) (by rw [List.flatten_nil, List.append_nil]; exact hk' _ _ hcI hcur) (.inl rfl))
  | cons xs rest ih =>
    intro i s cur c cc acc hlen hval hit hl h0k hS hcur hcI hcS hsz hR
    obtain ⟨b, cb, hbi, hbI, hbS, hb⟩ := hval 0 xs rfl
    refine codeAny_builtin F.entry_sum_loop ?_
    rw [Around.under_plainId F.plain_sum_loop _]
    show wpAny _ A.in1 (seqItems? (.ref S) >>= _) _ _ s
    refine wpAny_bind (wpAny_seqItems hS rfl ?_)
    show wpAny _ A.in1 (tryCatch (pyNext (.ref I)) _ >>= _) _ _ s
    refine wpAny_bind (wpAny_tryCatch (wpAny_pyNext_list_item hit hl (x := .ref b) (by simpa using hbi) fun h' hit' sb => ?_))
    have hk' : ∀ b o, b ≠ I → s.heap.get? b = some o → h'.get? b = some o := fun b o n e => (sb.2 b n).trans e
    have hS' := hk' S _ hIS.symm hS
    have hcur' := hk' cur _ hcI hcur
    have hb' := hk' b _ hbI (h0k b _ hbI hbS hb)
    have hl2 : acc.length + (xs.length + rest.flatten.length) ≤ sizeLine := by
      rw [List.flatten_cons, List.length_append] at hsz; exact hsz
    show wpAny _ A.in1 ((holding [Value.ref b] (binaryOp .Add (.ref cur) (.ref b))).attempt >>= _) _ _ _
    refine wpAny_bind (wpAny_attempt (wpAny_holding (PySem.P.add_list hcur' hb' ?_ (by simp only [List.size_toArray]; omega))))
    have hSlt' : S < h'.objs.size := Heap.lt_size hS'
    have hSh : S ≠ h'.objs.size := Nat.ne_of_lt hSlt'
    have hIlt : I < h'.objs.size := let ⟨_, q, _⟩ := hit'; Heap.lt_size q
    have hS2 : (h'.push { cls := .type "list", data := .seq (acc.toArray ++ xs.toArray) }).get? S = _ := Heap.get?_push_of_some _ hS'
    have hnew : (h'.push { cls := .type "list", data := .seq (acc.toArray ++ xs.toArray) }).get? h'.objs.size = some (lyL (acc ++ xs) 0) := by
      have := Heap.get?_push_size h' (o := { cls := .type "list", data := .seq (acc.toArray ++ xs.toArray) }) rfl
      rw [this]
      simp [lyL]
    show wpAny _ A.in1 (updateSeq S (fun _ => #[.ref h'.objs.size]) >>= _) _ _ _
    refine wpAny_bind (wpAny_updateSeq hS2 rfl ?_)
    have hS3 := Heap.get?_update_self (Obj.mapSeq fun _ => #[Value.ref h'.objs.size]) hS2 rfl
    refine wpAny_bind (wpAny_letGo ?_)
    have oth : ∀ b o, b ≠ S → h'.get? b = some o → (((h'.push { cls := .type "list", data := .seq (acc.toArray ++ xs.toArray) }).update S (Obj.mapSeq fun _ => #[Value.ref h'.objs.size])).update S (Obj.mapSeq fun _ => #[Value.ref h'.objs.size])).get? b = some o :=
      fun b o hb e => (Heap.get?_update_other _ _ (Ne.symm hb)).trans ((Heap.get?_update_other _ _ (Ne.symm hb)).trans (Heap.get?_push_of_some _ e))
    have hnew3 : (((h'.push { cls := .type "list", data := .seq (acc.toArray ++ xs.toArray) }).update S (Obj.mapSeq fun _ => #[Value.ref h'.objs.size])).update S (Obj.mapSeq fun _ => #[Value.ref h'.objs.size])).get? h'.objs.size = some (lyL (acc ++ xs) 0) :=
      (Heap.get?_update_other _ _ hSh).trans ((Heap.get?_update_other _ _ hSh).trans hnew)
    have hsz3 : (((h'.push { cls := .type "list", data := .seq (acc.toArray ++ xs.toArray) }).update S (Obj.mapSeq fun _ => #[Value.ref h'.objs.size])).update S (Obj.mapSeq fun _ => #[Value.ref h'.objs.size])).objs.size = h'.objs.size + 1 := by
      rw [Heap.size_update, Heap.size_update, Heap.size_push]
    have hle : s.heap.objs.size ≤ h'.objs.size := Nat.le_of_eq sb.1.symm
    refine wpAny_bind (wpAny_updateSeq hS3 rfl (wpAny_pure ⟨plainId_quiet F.plain_sum_loop _, ih (i + 1) _ h'.objs.size _ 0 (acc ++ xs) (by rw [List.length_cons] at hlen; omega) (fun j ys e => ?_) (hit'.at fun o e => oth I o hIS e) ?_ (fun b o n1 n2 e => oth b o n2 (hk' b o n1 (h0k b o n1 n2 e))) (Heap.get?_update_self _ hS3 rfl) hnew3 (Nat.ne_of_gt hIlt) hSh.symm (by rw [List.length_append]; omega) fun h'' tk'' cur'' c'' hk'' hc'' hor => ?_⟩))
    · obtain ⟨b2, c2, e1, e2⟩ := hval (j + 1) ys (by rw [List.getElem?_cons_succ]; exact e)
      exact ⟨b2, c2, by rw [show i + 1 + j = i + (j + 1) by omega]; exact e1, e2⟩
    · obtain ⟨ol, g1, g2⟩ := hl
      exact ⟨ol, oth l ol hlS (hk' l ol hIl g1), g2⟩
    · refine hR h'' tk'' cur'' c'' (fun b o n1 n2 e => hk'' b o n1 n2 (oth b o n2 (hk' b o n1 e))) (by rw [List.flatten_cons, ← List.append_assoc]; exact hc'') (.inr ?_)
      rcases hor with rfl | hor
      · exact hle
      · exact Nat.le_trans hle (Nat.le_trans (by show _ ≤ Array.size (Heap.objs _); rw [hsz3]; exact Nat.le_succ _) hor)
theorem ly_args_sum2 (a b : Value) : argsOk "sum" ⟨[a, b], []⟩ := by unfold argsOk; kernel_rfl
theorem ly_sub_list_str : isSubtype (.type "list") (.type "str") = pure false := by rw [isSubtype_type]; kernel_rfl
theorem ly_sub_list_bytes : isSubtype (.type "list") (.type "bytes") = pure false := by rw [isSubtype_type]; kernel_rfl
theorem ly_sub_list_bytearray : isSubtype (.type "list") (.type "bytearray") = pure false := by rw [isSubtype_type]; kernel_rfl
variable {E : Value → Shared → Prop} {s : Shared}
theorem ly_call_sum {st : Addr} {cst : Nat} {rest : List (List Value)} {Q : Value → Shared → Prop} (hh : A.handled = none) (hl : s.heap.IsList l items.toArray) (hlen : rest.length = items.length)
    (hval : ∀ (j : Nat) (xs : List Value), rest[j]? = some xs → ∃ b c, items[j]? = some (Value.ref b) ∧ s.heap.get? b = some (lyL xs c)) (hst : s.heap.get? st = some (lyL [] cst)) (hsz : rest.flatten.length ≤ sizeLine)
    (hQ : ∀ h' tk cur c, (∀ b o, s.heap.get? b = some o → h'.get? b = some o) → h'.get? cur = some (lyL rest.flatten c) → (cur = st ∨ s.heap.objs.size ≤ cur) → Q (.ref cur) { s with heap := h', toks := tk }) :
    wpAny (model prog w) A (call (.builtin "sum") [.ref l, .ref st]) Q E s := by
  refine call_function_tree F.kind_sum F.plain_sum F.entry_sum (ly_args_sum2 _ _) ?_
  unfold Builtin.«sum»
  simp only [List.length_cons, List.length_nil]
  rw [if_neg (by decide)]
  refine wpAny_bind (wpAny_of_eq (show Builtin.Builtins.bindParams "sum" ["start"] 0 ⟨[.ref st], []⟩ = pure [some (.ref st)] from rfl) ?_)
  refine wpAny_bind (wpAny_pyIter_list hl ?_)
  refine wpAny_bind (wpAny_pure ?_)
  have hst2 := Heap.get?_push_of_some { cls := .type "list_iterator", data := .fields #[.ref l, .int 0 0] } hst
  have hT : Shared.TypeIs { s with heap := s.heap.push { cls := .type "list_iterator", data := .fields #[.ref l, .int 0 0] } } (.ref st) "list" := ⟨_, hst2, rfl⟩
  simp only [List.forIn_cons, List.forIn_nil]
  refine wpAny_bind (wpAny_bind (wpAny_bind (wpAny_isInstance (T := "list") (b := false) hT ly_sub_list_str ?_)))
  simp only [Bool.false_eq_true, if_false]
  refine wpAny_pure (wpAny_bind (wpAny_bind (wpAny_isInstance (T := "list") (b := false) hT ly_sub_list_bytes ?_)))
  simp only [Bool.false_eq_true, if_false]
  refine wpAny_pure (wpAny_bind (wpAny_bind (wpAny_isInstance (T := "list") (b := false) hT ly_sub_list_bytearray ?_)))
  simp only [Bool.false_eq_true, if_false]
  refine wpAny_pure (wpAny_pure ?_)
  refine wpAny_bind (wpAny_newObj_type ?_)
  have hIsz : (s.heap.push { cls := .type "list_iterator", data := .fields #[.ref l, .int 0 0] }).objs.size = s.heap.objs.size + 1 := Heap.size_push ..
  have hllt : l < s.heap.objs.size := let ⟨_, q, _⟩ := hl; Heap.lt_size q
  have hstlt : st < s.heap.objs.size := Heap.lt_size hst
  have keep2 : ∀ b o, s.heap.get? b = some o → ((s.heap.push { cls := .type "list_iterator", data := .fields #[.ref l, .int 0 0] }).push { cls := .type "list", data := .seq #[.ref st] }).get? b = some o := fun b o e => Heap.get?_push_of_some _ (Heap.get?_push_of_some _ e)
  refine wpAny_pure ⟨plainId_quiet F.plain_sum_loop _, ly_sum_loop (I := s.heap.objs.size) (l := l) (S := (s.heap.push { cls := .type "list_iterator", data := .fields #[.ref l, .int 0 0] }).objs.size) (items := items) hh (Nat.ne_of_lt hllt) (by rw [hIsz]; exact Nat.ne_of_lt (Nat.lt_succ_self _)) (by rw [hIsz]; exact Nat.ne_of_lt (Nat.lt_succ_of_lt hllt)) s.heap rest 0 _ st 0 cst [] (by omega) (fun j xs e => ?_)
    ⟨_, Heap.get?_push_of_some _ (Heap.get?_push_size _ rfl), rfl, rfl⟩ (by obtain ⟨ol, g1, g2⟩ := hl; exact ⟨ol, keep2 l ol g1, g2⟩) (fun b o _ _ e => keep2 b o e) (Heap.get?_push_size _ rfl) (keep2 st _ hst) (Nat.ne_of_lt hstlt) (by rw [hIsz]; exact Nat.ne_of_lt (Nat.lt_succ_of_lt hstlt)) (by simpa using hsz) fun h' tk cur' c' hk hc hor => ?_⟩
  · obtain ⟨b, c, e1, e2⟩ := hval j xs e
    have hb := Heap.lt_size e2
    exact ⟨b, c, by rw [Nat.zero_add]; exact e1, Nat.ne_of_lt hb, by rw [hIsz]; exact Nat.ne_of_lt (Nat.lt_succ_of_lt hb), e2⟩
  · refine hQ h' tk cur' c' (fun b o e => hk b o (Nat.ne_of_lt (Heap.lt_size e)) (by rw [hIsz]; exact Nat.ne_of_lt (Nat.lt_succ_of_lt (Heap.lt_size e))) (keep2 b o e)) hc ?_
    rcases hor with h | h
    · exact .inl h
    · refine .inr (Nat.le_trans ?_ h)
      show _ ≤ Array.size (Heap.objs _)
      rw [Heap.size_push, hIsz]
      omega
end
end PySem
namespace LY
open PySem PySem.Spec PyProof.Rows L2
section
variable {X : Cx}
def lstsD : List D → Option (List (List D))
  | [] => some []
  | .lst ds :: r => (lstsD r).map (ds :: ·)
  | _ :: _ => none
/-- sum(lists, []) -/
def rSumL : List V → Hp → VK → Prop := fun xs H Q => ∃ (l st : Addr) (A : List Addr) (vs : List V) (dss : List (List D)), xs = [.ref l, .ref st] ∧ LstS H l vs ∧ RpL A H (dss.map D.lst) vs ∧ H st = some (.lst []) ∧ dss.flatten.length ≤ sizeLine ∧
  ∀ p ws, ((p = st ∧ dss.flatten = [] ∧ ws = []) ∨ H p = none) → RpL A H dss.flatten ws → Q (.ref p) (upd H p (.lst ws))
theorem call_sumL (hc : X.calm = true) : CallR X (.builtin "sum") rSumL := by
  intro pins s σ H xs us Q I r h
  obtain ⟨l, st, A, vs, dss, rfl, hL, rp, hst, hz, q⟩ := h
  obtain ⟨u1, u2, rfl, r1, r2⟩ := vals2 r
  cases r1
  cases r2
  obtain ⟨z, its, n, rv, e⟩ := (show ObjOk X.prog X.w H s.heap l (.lst vs) from rd_of I.hok hL)
  obtain ⟨z2, its2, n2, rv2, hl2, e2⟩ := I.lstM hst
  cases rv2
  -- the values of the inner lists
  have inner : ∀ (dss : List (List D)) (vs : List V) (its : List Value), RpL A H (dss.map D.lst) vs → Vals vs its → ∃ (rest : List (List Value)) (wss : List (List V)), rest.length = its.length ∧ wss.length = dss.length ∧ (∀ (j : Nat) (xs : List Value), rest[j]? = some xs → ∃ b c, its[j]? = some (Value.ref b) ∧ s.heap.get? b = some (lyL xs c)) ∧ RpL A H dss.flatten wss.flatten ∧ Vals wss.flatten rest.flatten := by
    intro dss
    induction dss with
    | nil =>
      intro vs its rp rv
      rw [show vs = [] from rp] at rv
      cases rv
      exact ⟨[], [], rfl, rfl, fun j xs e => by simp at e, rfl, .nil⟩
    | cons ds dss ih =>
      intro vs its rp rv
      obtain ⟨v, r, rfl, ⟨a, ws, rfl, na, ha, rw'⟩, h2⟩ := rp
      cases rv with
      | cons g1 g2 =>
        cases g1
        obtain ⟨rest, wss, f1, f2, f3, f4, f5⟩ := ih _ _ h2 g2
        obtain ⟨z3, its3, n3, rv3, e3⟩ := (show ObjOk X.prog X.w H s.heap a (.lst ws) from rd_of I.hok ha)
        refine ⟨its3 :: rest, ws :: wss, by simp [f1], by simp [f2], fun j xs e => ?_, by simpa using rw'.append f4, by simpa using rv3.append f5⟩
        cases j with
        | zero =>
          rw [List.getElem?_cons_zero] at e
          cases e
          exact ⟨a, n3, rfl, e3⟩
        | succ j =>
          rw [List.getElem?_cons_succ] at e
          obtain ⟨b, c, k1, k2⟩ := f3 j xs e
          exact ⟨b, c, by rw [List.getElem?_cons_succ]; exact k1, k2⟩
  obtain ⟨rest, wss, f1, f2, f3, f4, f5⟩ := inner dss vs its rp rv
  have hfl : rest.flatten.length ≤ sizeLine := by rw [← f5.length, f4.length]; exact hz
  refine ly_call_sum (I.ok.hd hc) (show s.heap.IsList l its.toArray from ⟨_, e, rfl, n, rfl⟩) f1 f3 e2 hfl fun h' tk cur c hk hcur hor => ?_
  have hln : wss.flatten.length ≤ sizeLine := by rw [f4.length]; exact hz
  rcases hor with rfl | hor
  · -- nothing was added: the start itself
    have he : rest.flatten = [] := by
      have h1 := hk cur _ e2
      rw [hcur] at h1
      have h2 := congrArg (fun o : Option Obj => match o with | some { data := .seq xs _, .. } => xs | _ => #[]) h1
      simpa [lyL] using h2
    have hw : wss.flatten = [] := by
      have := f5.length
      rw [he] at this
      exact List.eq_nil_of_length_eq_zero this
    have hd : dss.flatten = [] := by
      have := f4.length
      rw [hw] at this
      exact List.eq_nil_of_length_eq_zero this.symm
    have hq := q cur wss.flatten (.inl ⟨rfl, hd, hw⟩) f4
    rw [hw] at hq
    have hsame : upd H cur (.lst []) = H := by
      funext b
      by_cases hb : b = cur
      · rw [hb, upd_same, hst]
      · rw [upd_ne hb]
    rw [hsame] at hq
    exact ⟨.ref cur, H, I.kept (t' := tk) hk, rfl, hq⟩
  · exact ⟨.ref cur, upd H cur (.lst wss.flatten), I.laid (t' := tk) hk hor ⟨hln, rest.flatten, c, f5, hcur⟩, rfl, q _ _ (.inr (I.hok.fresh hor)) f4⟩
theorem lsts_map {ds : List D} {dss : List (List D)} (h : lstsD ds = some dss) : ds = dss.map D.lst := by
  induction ds generalizing dss with
  | nil => cases h; rfl
  | cons d ds ih =>
    cases d with
    | lst b =>
      simp only [lstsD, Option.map_eq_some_iff] at h
      obtain ⟨cs, e, rfl⟩ := h
      rw [ih e]; rfl
    | _ => cases h
def dSumL (g : Den) : Rho → Option (List D) := fun ρ => (g ρ).bind fun d => match d with
  | .lst ds => (lstsD ds).bind fun dss => if dss.flatten.length ≤ 1000000 then some dss.flatten else none
  | _ => none
theorem f_sumL {p pos epos : Pos} {e : Expr} {g : Den} (hc : X.calm = true) (hg : Gl X "sum") (hm : X.mg "sum" = none) (ha : QV X e g) (he : starEach [e, .List [] epos] X.env = (false, eval e X.env) :: starEach [.List [] epos] X.env := by rfl)
    (he' : starEach [.List [] epos] X.env = (false, eval (.List [] epos) X.env) :: starEach [] X.env := by rfl) (hpl : (backTo pos (starEach [.List [] epos] X.env)).any (·.1) = false := by rfl) :
    QF X (.Call (.Name "sum" p) [e, .List [] epos] [] pos) (dSumL g) :=
  (pe_callB (call_sumL hc) hg hm (by decide +kernel) (pa_cons ha (pa_cons (pe_lst pa_nil) pa_nil he') he) (by decide) (by decide) he hpl).imp fun σ H Q ⟨H0, B, A, ρ, ds, S, q, k⟩ => by
    obtain ⟨x, e1, e2⟩ := bind1 q
    split at e2
    · obtain ⟨dss, e3, e4⟩ := bind1 e2
      split at e4
      · rename_i hl
        cases e4
        refine ⟨H0, B, A, ρ, _, S, e1, fun v H1 s1 r1 => ⟨Nat.zero_le _, fun st hst => ?_⟩⟩
        obtain ⟨a, vs, rfl, ha, r⟩ := r1.lst
        rw [lsts_map e3] at r
        have ha' : LstS (upd H1 st (.lst [])) a vs := ha.x (A := []) (Sm.new hst).x (by simp)
        refine ⟨a, st, A, vs, dss, rfl, ha', r.ext (Sm.new hst).x, upd_same, by rw [sizeLine_eq]; omega, fun p ws hp hw => ?_⟩
        rcases hp with ⟨rfl, hd, rfl⟩ | hp
        · have hu : upd (upd H1 p (.lst [])) p (.lst []) = upd H1 p (.lst []) := upd_upd
          rw [hu]
          exact k p [] _ (s1.trans (Sm.new hst)) (s1.none hst) upd_same (by rw [hd]; rfl)
        · have hp1 : H1 p = none := (Sm.new hst).none hp
          exact k p ws _ (s1.trans ((Sm.new hst).trans (Sm.new hp))) (s1.none hp1) upd_same ((hw.addNew hp).ext (Sm.new hp).x)
      · cases e4
    · cases e2
end
end LY
set_option Elab.async false
set_option linter.all false
set_option maxRecDepth 100000
set_option maxHeartbeats 2000000
/-! LY18: a, b = x, y where a name is a cell: by a tuple that is let go -/
namespace LY
open PySem PySem.Spec PyProof.Rows L2
section
variable {X : Cx}
theorem s_parC {i j : Nat} {x y : Str} {a b : Expr} {za zb : DenZ} {px py pt pos : Pos} {kt k2 pt2} (hc : X.calm = true) (hN : X.N.Nodup) (hi : X.N[i]? = some x) (hj : X.N[j]? = some y) (hij : i ≠ j)
    (hx : Loc X.env.scope x) (hy : Loc X.env.scope y) (ha : QZ X a za) (hb : QZ X b zb)
    (hw : swappedStores [.Tuple [.Name x px, .Name y py] kt pt] (.Tuple [a, b] k2 pt2) X.env = pure none)
    (hs1 : starEach [a, b] X.env = (false, eval a X.env) :: starEach [b] X.env := by rfl) (hs2 : starEach [b] X.env = (false, eval b X.env) :: starEach [] X.env := by rfl)
    (hs : swapsWithSole [.Tuple [.Name x px, .Name y py] kt pt] (.Tuple [a, b] k2 pt2) pos.line X.env = pure false := by rfl)
    (h1 : (assignEach [.Tuple [.Name x px, .Name y py] kt pt] X.env).map (·.2) = [assign (.Tuple [.Name x px, .Name y py] kt pt) X.env] := by rfl)
    (hn : (assignEach [.Name x px, .Name y py] X.env).length = 2 := by rfl) (hst : (assignEach [.Name x px, .Name y py] X.env).findIdx? (·.1) = none := by rfl)
    (ht1 : (assignEach (.Name x px :: [.Name y py]) X.env).map (·.2) = assign (.Name x px) X.env :: (assignEach [.Name y py] X.env).map (·.2) := by rfl) (ht2 : (assignEach (.Name y py :: []) X.env).map (·.2) = assign (.Name y py) X.env :: (assignEach [] X.env).map (·.2) := by rfl)
    (hfx : X.fn x = true ∨ X.env.scope.names.lookup x = some .local := by first | exact .inl rfl | exact .inr rfl | assumption) (hfy : X.fn y = true ∨ X.env.scope.names.lookup y = some .local := by first | exact .inl rfl | exact .inr rfl | assumption) :
    QS X (.Assign [.Tuple [.Name x px, .Name y py] kt pt] (.Tuple [a, b] k2 pt2) pos) (fPut2 i j za zb) :=
  (ps_asg (pe_tupS (pa_cons ha (pa_cons hb pa_nil hs2) hs1)) (pg_tup hc (pgs_cons (pg_name hN hi hx hfx) (pgs_cons (pg_name hN hj hy hfy) pgs_nil ht2) ht1) hn hst) hs hw h1).imp fun E σ H ⟨H0, B, A, ρ, o, S, q, k⟩ => by
    obtain ⟨x1, x2, e1, e2, e3⟩ := bind2 q
    split at e3
    · cases e3
      rename_i hl
      refine ⟨H0, B, A, ρ, x1, S, e1, fun v A1 H1 s1 c1 t1 S1 z1 f1 => ?_⟩
      refine ⟨H0, B, A1, ρ, x2, S1, e2, fun w A2 H2 s2 c2 t2 S2 z2 f2 => ?_⟩
      refine ⟨by show 2 ≤ sizeLine; decide, fun p ob hp hob => ?_⟩
      refine ⟨p, [v, w], rfl, .inl (.inr ⟨ob, upd_same⟩), rfl, v, [w], rfl, w, [], rfl, rfl, ?_⟩
      have sp : Sm H2 (upd H2 p (.frz ob (.tup [v, w]))) := Sm.new hp
      have st : Step A H A2 (upd H2 p (.frz ob (.tup [v, w]))) := (Step.trans ⟨s1.x, c1⟩ ⟨s2.x, c2⟩).trans (Step.of sp)
      refine k A2 _ _ st ?_
      have S3 := S2.ext sp
      have z1' := (z1.ext s2 c2 t2).ext sp (fun a h => .inl h) (fun a h => h)
      have z2' := z2.ext sp (fun a h => .inl h) (fun a h => h)
      have P1 : Sim H0 B A2 (upd H2 p (.frz ob (.tup [v, w]))) (σ.set i (some v)) (ρ.set i (some x1)) := S3.put z1' hl.1 fun d a ex ev l e he hs => by
        obtain ⟨b, h1, h2, _⟩ := S.sl l _ he
        rw [hs] at h1; cases h1
        exact f1 d a ex ev h2
      refine P1.put z2' (by rw [List.length_set]; exact hl.2) fun d a ex ev l e he hs => ?_
      have nA1 := f2 d a ex ev
      by_cases hli : i = l
      · subst hli
        rw [List.getElem?_set_self (by rw [← S.len]; exact hl.1)] at hs
        rw [List.getElem?_set_self hl.1] at he
        cases he
        obtain ⟨b, h1, h2, _⟩ := z1
        cases hs
        cases h1
        exact nA1 h2
      · rw [List.getElem?_set_ne hli] at hs he
        obtain ⟨b, h1, h2, _⟩ := S1.sl l _ he
        rw [hs] at h1; cases h1
        exact nA1 h2
    · cases e3
end
end LY
set_option Elab.async false
set_option linter.all false
set_option maxRecDepth 100000
set_option maxHeartbeats 1000000
/-! LT4: code that draws: further forms -/
namespace LY
open PySem PySem.Spec PyProof.Rows L2
section
variable {X : Cx} {p : Addr}
theorem xs_parC {i j : Nat} {x y : Str} {a b : Expr} {za zb : TDenZ} {px py pt pos : Pos} {kt k2 pt2} (hc : X.calm = true) (hN : X.N.Nodup) (hi : X.N[i]? = some x) (hj : X.N[j]? = some y) (hij : i ≠ j)
    (hx : Loc X.env.scope x) (hy : Loc X.env.scope y) (ha : XZ X p a za) (hb : XZ X p b zb)
    (hw : swappedStores [.Tuple [.Name x px, .Name y py] kt pt] (.Tuple [a, b] k2 pt2) X.env = pure none)
    (hs1 : starEach [a, b] X.env = (false, eval a X.env) :: starEach [b] X.env := by rfl) (hs2 : starEach [b] X.env = (false, eval b X.env) :: starEach [] X.env := by rfl)
    (hs : swapsWithSole [.Tuple [.Name x px, .Name y py] kt pt] (.Tuple [a, b] k2 pt2) pos.line X.env = pure false := by rfl)
    (h1 : (assignEach [.Tuple [.Name x px, .Name y py] kt pt] X.env).map (·.2) = [assign (.Tuple [.Name x px, .Name y py] kt pt) X.env] := by rfl)
    (hn : (assignEach [.Name x px, .Name y py] X.env).length = 2 := by rfl) (hst : (assignEach [.Name x px, .Name y py] X.env).findIdx? (·.1) = none := by rfl)
    (ht1 : (assignEach (.Name x px :: [.Name y py]) X.env).map (·.2) = assign (.Name x px) X.env :: (assignEach [.Name y py] X.env).map (·.2) := by rfl) (ht2 : (assignEach (.Name y py :: []) X.env).map (·.2) = assign (.Name y py) X.env :: (assignEach [] X.env).map (·.2) := by rfl)
    (hfx : X.fn x = true ∨ X.env.scope.names.lookup x = some .local := by first | exact .inl rfl | exact .inr rfl | assumption) (hfy : X.fn y = true ∨ X.env.scope.names.lookup y = some .local := by first | exact .inl rfl | exact .inr rfl | assumption) :
    XS X p (.Assign [.Tuple [.Name x px, .Name y py] kt pt] (.Tuple [a, b] k2 pt2) pos) (xPut2 i j za zb) :=
  (ps_asg (pe_tupS (pa_cons ha (pa_cons hb pa_nil hs2) hs1)) (pg_tup hc (pgs_cons (pg_name hN hi hx hfx) (pgs_cons (pg_name hN hj hy hfy) pgs_nil ht2) ht1) hn hst) hs hw h1).imp fun E σ H ⟨H0, B, A, ρ, c, P, S, q, w, k⟩ => by
    refine ⟨H0, B, A, ρ, c, _, S, q, w, fun x1 c1 v A1 H1 w1 s1 st1 t1 S1 q1 z1 f1 => ?_⟩
    refine ⟨H0, B, A1, ρ, c1, _, S1, q1, w1, fun x2 c2 u A2 H2 ⟨hl, w2⟩ s2 st2 t2 S2 q2 z2 f2 => ?_⟩
    refine ⟨by show 2 ≤ sizeLine; decide, fun a ob ha hob => ?_⟩
    refine ⟨a, [v, u], rfl, .inl (.inr ⟨ob, upd_same⟩), rfl, v, [u], rfl, u, [], rfl, rfl, ?_⟩
    have sp : Sm H2 (upd H2 a (.frz ob (.tup [v, u]))) := Sm.new ha
    refine k _ c2 w2 A2 _ _ ((st1.trans st2).trans (Step.of sp)) ?_ (q2.ext sp)
    refine SimP.ext ?_ sp
    have z1' := ZOk.mv S.1 S1.mem s2 st2.2 t2 z1
    have hlen : ρ.length = σ.length := by obtain ⟨_, _, _, S⟩ := S; exact S.len
    have P1 : SimP p H0 B A2 H2 (σ.set i (some v)) (ρ.set i (some x1)) := S2.put z1' hl.1 fun d a ex ev l e he hs => by
      obtain ⟨b, h1, h2, _⟩ := S.sl l _ he
      rw [hs] at h1; cases h1
      exact f1 d a ex ev h2
    refine P1.put z2 (by rw [List.length_set]; exact hl.2) fun d a ex ev l e he hs => ?_
    have nA1 := f2 d a ex ev
    by_cases hli : i = l
    · subst hli
      rw [List.getElem?_set_self (by rw [← hlen]; exact hl.1)] at hs
      rw [List.getElem?_set_self hl.1] at he
      cases he
      obtain ⟨b, h1, h2, _⟩ := z1
      cases hs
      cases h1
      exact nA1 h2
    · rw [List.getElem?_set_ne hli] at hs he
      obtain ⟨b, h1, h2, _⟩ := S1.sl l _ he
      rw [hs] at h1; cases h1
      exact nA1 h2
theorem xs_par3C {i j l : Nat} {x y z : Str} {a b cc : Expr} {za zb zc : TDenZ} {px py pz pt pos : Pos} {kt k2 pt2} (hc : X.calm = true) (hN : X.N.Nodup) (hi : X.N[i]? = some x) (hj : X.N[j]? = some y) (hl : X.N[l]? = some z) (hij : i ≠ j) (hil : i ≠ l) (hjl : j ≠ l)
    (hx : Loc X.env.scope x) (hy : Loc X.env.scope y) (hz : Loc X.env.scope z) (ha : XZ X p a za) (hb : XZ X p b zb) (hcc : XZ X p cc zc)
    (hw : swappedStores [.Tuple [.Name x px, .Name y py, .Name z pz] kt pt] (.Tuple [a, b, cc] k2 pt2) X.env = pure none)
    (hs1 : starEach [a, b, cc] X.env = (false, eval a X.env) :: starEach [b, cc] X.env := by rfl) (hs2 : starEach [b, cc] X.env = (false, eval b X.env) :: starEach [cc] X.env := by rfl) (hs3 : starEach [cc] X.env = (false, eval cc X.env) :: starEach [] X.env := by rfl)
    (hs : swapsWithSole [.Tuple [.Name x px, .Name y py, .Name z pz] kt pt] (.Tuple [a, b, cc] k2 pt2) pos.line X.env = pure false := by rfl)
    (h1 : (assignEach [.Tuple [.Name x px, .Name y py, .Name z pz] kt pt] X.env).map (·.2) = [assign (.Tuple [.Name x px, .Name y py, .Name z pz] kt pt) X.env] := by rfl)
    (hn : (assignEach [.Name x px, .Name y py, .Name z pz] X.env).length = 3 := by rfl) (hst : (assignEach [.Name x px, .Name y py, .Name z pz] X.env).findIdx? (·.1) = none := by rfl)
    (ht1 : (assignEach (.Name x px :: [.Name y py, .Name z pz]) X.env).map (·.2) = assign (.Name x px) X.env :: (assignEach [.Name y py, .Name z pz] X.env).map (·.2) := by rfl) (ht2 : (assignEach (.Name y py :: [.Name z pz]) X.env).map (·.2) = assign (.Name y py) X.env :: (assignEach [.Name z pz] X.env).map (·.2) := by rfl)
    (ht3 : (assignEach (.Name z pz :: []) X.env).map (·.2) = assign (.Name z pz) X.env :: (assignEach [] X.env).map (·.2) := by rfl)
    (hfx : X.fn x = true ∨ X.env.scope.names.lookup x = some .local := by first | exact .inl rfl | exact .inr rfl | assumption) (hfy : X.fn y = true ∨ X.env.scope.names.lookup y = some .local := by first | exact .inl rfl | exact .inr rfl | assumption)
    (hfz : X.fn z = true ∨ X.env.scope.names.lookup z = some .local := by first | exact .inl rfl | exact .inr rfl | assumption) :
    XS X p (.Assign [.Tuple [.Name x px, .Name y py, .Name z pz] kt pt] (.Tuple [a, b, cc] k2 pt2) pos) (xPut3 i j l za zb zc) :=
  (ps_asg (pe_tupS (pa_cons ha (pa_cons hb (pa_cons hcc pa_nil hs3) hs2) hs1)) (pg_tup hc (pgs_cons (pg_name hN hi hx hfx) (pgs_cons (pg_name hN hj hy hfy) (pgs_cons (pg_name hN hl hz hfz) pgs_nil ht3) ht2) ht1) hn hst) hs hw h1).imp fun E σ H ⟨H0, B, A, ρ, c, P, S, q, w, k⟩ => by
    refine ⟨H0, B, A, ρ, c, _, S, q, w, fun x1 c1 v A1 H1 w1 s1 st1 t1 S1 q1 z1 f1 => ?_⟩
    refine ⟨H0, B, A1, ρ, c1, _, S1, q1, w1, fun x2 c2 u A2 H2 w2 s2 st2 t2 S2 q2 z2 f2 => ?_⟩
    refine ⟨H0, B, A2, ρ, c2, _, S2, q2, w2, fun x3 c3 y A3 H3 ⟨hlen3, w3⟩ s3 st3 t3 S3 q3 z3 f3 => ?_⟩
    refine ⟨by show 3 ≤ sizeLine; decide, fun a ob ha hob => ?_⟩
    refine ⟨a, [v, u, y], rfl, .inl (.inr ⟨ob, upd_same⟩), rfl, v, [u, y], rfl, u, [y], rfl, y, [], rfl, rfl, ?_⟩
    have sp : Sm H3 (upd H3 a (.frz ob (.tup [v, u, y]))) := Sm.new ha
    refine k _ c3 w3 A3 _ _ (((st1.trans st2).trans st3).trans (Step.of sp)) ?_ (q3.ext sp)
    refine SimP.ext ?_ sp
    have hp := S.1
    have z1' := ZOk.mv hp S1.mem s2 st2.2 t2 z1
    have z1'' := ZOk.mv hp S2.mem s3 st3.2 t3 z1'
    have z2' := ZOk.mv hp S2.mem s3 st3.2 t3 z2
    have hlen : ρ.length = σ.length := by obtain ⟨_, _, _, S⟩ := S; exact S.len
    have o1 : ∀ (l : Nat) (e : D) (a : Addr), ρ[l]? = some (some (.o e)) → σ[l]? = some (some (.ref a)) → a ∈ A := fun l e a he hs => by
      obtain ⟨b, h1, h2, _⟩ := S.sl l _ he
      rw [hs] at h1; cases h1
      exact h2
    have P1 : SimP p H0 B A3 H3 (σ.set i (some v)) (ρ.set i (some x1)) := S3.put z1'' hlen3.1 fun d a ex ev l e he hs => f1 d a ex ev (o1 l e a he hs)
    have P2 : SimP p H0 B A3 H3 ((σ.set i (some v)).set j (some u)) ((ρ.set i (some x1)).set j (some x2)) := P1.put z2' (by rw [List.length_set]; exact hlen3.2.1) fun d a ex ev l e he hs => by
      have nA1 := f2 d a ex ev
      by_cases hli : i = l
      · subst hli
        rw [List.getElem?_set_self (by rw [← hlen]; exact hlen3.1)] at hs
        rw [List.getElem?_set_self hlen3.1] at he
        cases he
        obtain ⟨b, h1, h2, _⟩ := z1
        cases hs
        cases h1
        exact nA1 h2
      · rw [List.getElem?_set_ne hli] at hs he
        exact nA1 (t1 a (o1 l e a he hs))
    refine P2.put z3 (by rw [List.length_set, List.length_set]; exact hlen3.2.2) fun d a ex ev l e he hs => ?_
    have nA2 := f3 d a ex ev
    by_cases hjl : j = l
    · subst hjl
      rw [List.getElem?_set_self (by rw [List.length_set, ← hlen]; exact hlen3.2.1)] at hs
      rw [List.getElem?_set_self (by rw [List.length_set]; exact hlen3.2.1)] at he
      cases he
      obtain ⟨b, h1, h2, _⟩ := z2
      cases hs
      cases h1
      exact nA2 h2
    · rw [List.getElem?_set_ne hjl] at hs he
      by_cases hli : i = l
      · subst hli
        rw [List.getElem?_set_self (by rw [← hlen]; exact hlen3.1)] at hs
        rw [List.getElem?_set_self hlen3.1] at he
        cases he
        obtain ⟨b, h1, h2, _⟩ := z1
        cases hs
        cases h1
        exact nA2 (t2 _ h2)
      · rw [List.getElem?_set_ne hli] at hs he
        exact nA2 (t2 a (t1 a (o1 l e a he hs)))
/-- a call of a drawing def with things looked at: what comes is flat -/
def xFlat (g : TDen) : TDen := fun ρ c P => g ρ c fun d c1 => d.flat = true ∧ P d c1
end
end LY
set_option Elab.async false
set_option linter.all false
set_option maxRecDepth 100000
set_option maxHeartbeats 1000000
/-! LT5: the pot itself; a list that is handed back new; pop and append in one; calls with things looked at -/
namespace LY
open PySem PySem.Spec PyProof.Rows L2
section
variable {X : Cx} {p : Addr}
/-! ### pot[k], pot[0] = .., pot[2] = pot[2] + 1 -/
/-- what stands at place n of a pot with c draws left -/
def potGet (n : Nat) (c : Nat) (P : Int → Prop) : Prop := match n with
  | 0 => ∀ i : Int, P i
  | 1 => ∀ j : Int, 0 ≤ j → j < 2 ^ 61 → P j
  | 2 => ∀ k : Int, 0 ≤ k → k + c ≤ 1000000 → P k
  | _ => False
def xPotGet (p : Addr) (i n : Nat) : TDen := fun ρ c P => potIn i p ρ ∧ potGet n c fun v => P (.int v) c
theorem x_potget {i n : Nat} {x : Str} {pp cp pos : Pos} {kk : Nat} (hu : X.A.units + 1 < cLine) (hN : X.N[i]? = some x) (hv : Vis X.env.scope x)
    (hd : (x == ("__debug__" : Str)) = false := by decide) (hcd : (x == ("__classdict__" : Str)) = false := by decide) :
    XE X p (.Subscript (.Name x pp) (.Constant (.int (n : Int)) kk cp) pos) (xPotGet p i n) :=
  (pe_ix (ix_all hu) (pe_var hN hv hd hcd) pe_int (by exact fun _ _ => rfl)).imp fun σ H Q ⟨H0, B, A, ρ, c, P, S, q, ⟨wi, w⟩, k⟩ => by
    obtain ⟨a, b, cc, h1, h2, h3, h4, h5⟩ := id q
    have read : ∀ (v : Int), L2.atI [V.int a, V.int b, V.int cc] (n : Int) = some (V.int v) → P (.int v) c → rIxAll X.K (.ref p) (.int n) H Q := fun v e pv =>
      .inl (.inl ⟨p, _, _, _, rfl, rfl, SqL.of h1, e, k _ c _ H pv (SmP.refl p H) q rfl⟩)
    refine ⟨.ref p, S.pot wi, ?_⟩
    match n, w with
    | 0, w => exact read a rfl (w a)
    | 1, w => exact read b rfl (w b h2 h3)
    | 2, w => exact read cc rfl (w cc h4 h5)
def xPotSet0 (p : Addr) (i : Nat) (g : TDen) : TSt := fun ρ c P => potIn i p ρ ∧ g ρ c fun d c1 => ∃ v, d = .int v ∧ P (.nx ρ) c1
theorem potSet {H : Hp} {c c' : Nat} {i j k i' k' : Int} (h : H p = some (.lst [.int i, .int j, .int k])) : SmP p H (upd H p (.lst [.int i', .int j, .int k'])) := fun a o n e => by
  rw [upd_ne fun z => n (List.mem_singleton.mpr z)]; exact e
theorem xs_potset0 {i : Nat} {x : Str} {pp cp spos pos : Pos} {kk : Nat} {e : Expr} {g : TDen} (hN : X.N[i]? = some x) (hv : Vis X.env.scope x) (he : XE X p e g)
    (hd : (x == ("__debug__" : Str)) = false := by decide) (hcd : (x == ("__classdict__" : Str)) = false := by decide)
    (hs : swapsWithSole [.Subscript (.Name x pp) (.Constant (.int 0) kk cp) spos] e pos.line X.env = pure false := by rfl) (hw : swappedStores [.Subscript (.Name x pp) (.Constant (.int 0) kk cp) spos] e X.env = pure none := by rfl)
    (h1 : (assignEach [.Subscript (.Name x pp) (.Constant (.int 0) kk cp) spos] X.env).map (·.2) = [assign (.Subscript (.Name x pp) (.Constant (.int 0) kk cp) spos) X.env] := by rfl) :
    XS X p (.Assign [.Subscript (.Name x pp) (.Constant (.int 0) kk cp) spos] e pos) (xPotSet0 p i g) :=
  (ps_asg he (pg_sub (pe_var hN hv hd hcd) pe_int set_list) hs hw h1).imp fun E σ H ⟨H0, B, A, ρ, c, P, S, q, ⟨wi, w⟩, k⟩ => by
    refine ⟨H0, B, A, ρ, c, _, S, q, w, fun d c1 v H1 ⟨z, ez, w1⟩ s1 q1 r1 => ?_⟩
    subst ez
    obtain ⟨a, b, cc, g1, g2, g3, g4, g5⟩ := id q1
    have ev : v = .int z := r1
    subst ev
    refine ⟨.ref p, S.pot wi, p, _, 0, 0, rfl, rfl, g1, rfl, ?_⟩
    have s2 : SmP p H1 (upd H1 p (.lst [.int z, .int b, .int cc])) := fun a o n e => by
      rw [upd_ne fun z => n (List.mem_singleton.mpr z)]; exact e
    have q2 : PotAt (upd H1 p (.lst [.int z, .int b, .int cc])) p c1 := ⟨z, b, cc, upd_same, g2, g3, g4, g5⟩
    exact k _ c1 w1 A σ _ (Step.p S.mem (s1.trans s2)) ((S.step s1 q1).step s2 q2) q2
/-- pot[2] = pot[2] + 1: one draw -/
def xPotInc (p : Addr) (i : Nat) : TSt := fun ρ c P => potIn i p ρ ∧ 1 ≤ c ∧ P (.nx ρ) (c - 1)
theorem xs_potinc {i : Nat} {x : Str} {pp cp spos pos pp' cp' spos' p1 bp : Pos} {kk kk' k1 : Nat} (hu : X.A.units + 1 < cLine) (hN : X.N[i]? = some x) (hv : Vis X.env.scope x)
    (hd : (x == ("__debug__" : Str)) = false := by decide) (hcd : (x == ("__classdict__" : Str)) = false := by decide)
    (hs : swapsWithSole [.Subscript (.Name x pp) (.Constant (.int 2) kk cp) spos] (.BinOp (.Subscript (.Name x pp') (.Constant (.int 2) kk' cp') spos') .Add (.Constant (.int 1) k1 p1) bp) pos.line X.env = pure false := by rfl)
    (hw : swappedStores [.Subscript (.Name x pp) (.Constant (.int 2) kk cp) spos] (.BinOp (.Subscript (.Name x pp') (.Constant (.int 2) kk' cp') spos') .Add (.Constant (.int 1) k1 p1) bp) X.env = pure none := by rfl)
    (h1 : (assignEach [.Subscript (.Name x pp) (.Constant (.int 2) kk cp) spos] X.env).map (·.2) = [assign (.Subscript (.Name x pp) (.Constant (.int 2) kk cp) spos) X.env] := by rfl) :
    XS X p (.Assign [.Subscript (.Name x pp) (.Constant (.int 2) kk cp) spos] (.BinOp (.Subscript (.Name x pp') (.Constant (.int 2) kk' cp') spos') .Add (.Constant (.int 1) k1 p1) bp) pos) (xPotInc p i) :=
  (ps_asg (pe_op op_add (pe_ix (ix_all hu) (pe_var hN hv hd hcd) pe_int (by exact fun _ _ => rfl)) pe_int) (pg_sub (pe_var hN hv hd hcd) pe_int set_list) hs hw h1).imp fun E σ H ⟨H0, B, A, ρ, c, P, S, q, ⟨wi, hc, w⟩, k⟩ => by
    obtain ⟨a, b, cc, g1, g2, g3, g4, g5⟩ := id q
    refine ⟨.ref p, S.pot wi, .inl (.inl ⟨p, _, 2, .int cc, rfl, rfl, SqL.of g1, rfl, ?_⟩)⟩
    refine ⟨cc, 1, rfl, rfl, .ref p, S.pot wi, p, _, 2, 2, rfl, rfl, g1, rfl, ?_⟩
    have s2 : SmP p H (upd H p (.lst [.int a, .int b, .int (cc + 1)])) := fun a o n e => by
      rw [upd_ne fun z => n (List.mem_singleton.mpr z)]; exact e
    have q2 : PotAt (upd H p (.lst [.int a, .int b, .int (cc + 1)])) p (c - 1) := ⟨a, b, cc + 1, upd_same, g2, g3, by omega, by omega⟩
    exact k _ (c - 1) w A σ _ (Step.p S.mem s2) (S.step s2 q2) q2
/-! ### found.append(rest.pop(e)) -/
def xPopApp (i j : Nat) (g : TDen) : TSt := fun ρ c P => ∃ fs rs, oLst i ρ = some fs ∧ oLst j ρ = some rs ∧ fs.length ≤ 1000000 ∧ i ≠ j ∧ g ρ c fun d c1 => ∃ (n : Nat) (x : D), d = .int n ∧ n < 1000000 ∧ rs[n]? = some x ∧ P (.nx ((ρ.set j (some (.o (.lst (rs.eraseIdx n))))).set i (some (.o (.lst (fs ++ [x])))))) c1
theorem xs_popapp {i j : Nat} {x y : Str} {pp ap cp yp ap2 cp2 pos : Pos} {e : Expr} {g : TDen} (hN : X.N[i]? = some x) (hv : Vis X.env.scope x) (hN2 : X.N[j]? = some y) (hv2 : Vis X.env.scope y) (he : XE X p e g)
    (hd : (x == ("__debug__" : Str)) = false := by decide) (hcd : (x == ("__classdict__" : Str)) = false := by decide) (hd2 : (y == ("__debug__" : Str)) = false := by decide) (hcd2 : (y == ("__classdict__" : Str)) = false := by decide)
    (hbase : attributeBase (.Name x pp) "append" X.env (eval (.Name x pp) X.env) = eval (.Name x pp) X.env := by rfl) (hbase2 : attributeBase (.Name y yp) "pop" X.env (eval (.Name y yp) X.env) = eval (.Name y yp) X.env := by rfl)
    (hfew : ((backTo cp (starEach [.Call (.Attribute (.Name y yp) "pop" ap2) [e] [] cp2] X.env)).all (fun x => !x.1) && (backToKw cp (keywordEach [] X.env)).all (fun x => x.1.isSome)
      && decide (([.Call (.Attribute (.Name y yp) "pop" ap2) [e] [] cp2] : List Expr).length + ([] : List Keyword).length + (if ([] : List Keyword).isEmpty then 0 else 1) < 30)) = true := by rfl)
    (hfew2 : ((backTo cp2 (starEach [e] X.env)).all (fun x => !x.1) && (backToKw cp2 (keywordEach [] X.env)).all (fun x => x.1.isSome)
      && decide (([e] : List Expr).length + ([] : List Keyword).length + (if ([] : List Keyword).isEmpty then 0 else 1) < 30)) = true := by rfl)
    (hline : (ap.endLine == cp.line) = true := by rfl) (hline2 : (ap2.endLine == cp2.line) = true := by rfl) (hs : starEach [.Call (.Attribute (.Name y yp) "pop" ap2) [e] [] cp2] X.env = (false, eval (.Call (.Attribute (.Name y yp) "pop" ap2) [e] [] cp2) X.env) :: starEach [] X.env := by rfl)
    (hs2 : starEach [e] X.env = (false, eval e X.env) :: starEach [] X.env := by rfl)
    (hsw : swapsWith (.Call (.Attribute (.Name x pp) "append" ap) [.Call (.Attribute (.Name y yp) "pop" ap2) [e] [] cp2] [] cp) none pos.line X.env = pure false := by rfl) :
    XS X p (.Expr (.Call (.Attribute (.Name x pp) "append" ap) [.Call (.Attribute (.Name y yp) "pop" ap2) [e] [] cp2] [] cp) pos) (xPopApp i j g) :=
  (ps_expr (pe_bm PySem.F.plainAttrs_list PySem.F.slot_list_append PySem.F.type_list_append mt_append (pe_var hN hv hd hcd)
    (pa_cons (pe_bm PySem.F.plainAttrs_list PySem.F.slot_list_pop PySem.F.type_list_pop mt_popAt (pe_var hN2 hv2 hd2 hcd2) (pa_cons he pa_nil hs2) hbase2 hfew2 hline2 hs2 (by rfl)) pa_nil hs) hbase hfew hline hs (by rfl)) hsw).imp fun E σ H ⟨H0, B, A, ρ, c, P, S, q, ⟨fs, rs, e3, e4, hl, hij, w⟩, k⟩ => by
    have e5 := oLst_some e3
    have e6 := oLst_some e4
    obtain ⟨a, h1, aA, vs, h2, h3⟩ := S.sl i _ e5
    obtain ⟨b, h1', bA, us, h2', h3'⟩ := S.sl j _ e6
    obtain ⟨hpB, HH, eHH, SS⟩ := id S
    have na : a ≠ p := by
      obtain ⟨b, g1, g2⟩ := SS.own i _ e5
      rw [h1] at g1; cases g1
      exact fun z => g2 (z ▸ hpB)
    have nb : b ≠ p := by
      obtain ⟨a, g1, g2⟩ := SS.own j _ e6
      rw [h1'] at g1; cases g1
      exact fun z => g2 (z ▸ hpB)
    have nab : a ≠ b := fun z => hij (SS.dis i j _ _ a e5 e6 h1 (by rw [z]; exact h1'))
    refine ⟨.ref a, h1, .inl ⟨rfl, vs, SqL.of h2⟩, .ref b, h1', .inl ⟨rfl, us, SqL.of h2'⟩, H0, B, A, ρ, c, _, S, q, w, fun d c1 v H1 ⟨n, x, ed, hn, hx, w1⟩ s1 q1 r1 => ?_⟩
    subst ed
    have ev : v = .int n := r1
    subst ev
    have k2 := s1 _ _ (fun z => na (List.mem_singleton.mp z)) h2
    have k2' := s1 _ _ (fun z => nb (List.mem_singleton.mp z)) h2'
    have r3 := h3.mv S.mem s1
    have r3' := h3'.mv S.mem s1
    obtain ⟨xv, hxv, rx⟩ := r3'.get hx
    have hlen := (List.getElem?_eq_some_iff.mp hxv).1
    refine ⟨b, us, n, n, xv, rfl, rfl, k2', by omega, by omega, ?_, hxv, ?_⟩
    · unfold seqIndex?
      simp
      omega
    -- the popped list, then the appended
    have sx : ∀ (t : Addr) (o : HO), t ∈ A → SameX A H1 (upd H1 t o) := fun t o tA y u n e => by
      rw [upd_ne fun z : y = t => n (by rw [z]; exact tA)]
      exact e
    have S1 := S.step s1 q1
    obtain ⟨t1, S2, _⟩ := S1.own_upd (d' := .lst (rs.eraseIdx n)) (u := .lst (us.eraseIdx n)) e6 h1' rfl ⟨_, upd_same, (r3'.eraseIdx n).ext (sx b _ bA)⟩
    have e5' : (ρ.set j (some (.o (.lst (rs.eraseIdx n)))))[i]? = some (some (.o (.lst fs))) := by rw [List.getElem?_set_ne (Ne.symm hij)]; exact e5
    have k3 : (upd H1 b (.lst (us.eraseIdx n))) a = some (.lst vs) := by rw [upd_ne nab]; exact k2
    refine ⟨a, vs, xv, rfl, rfl, k3, by rw [h3.length, sizeLine_eq]; omega, ?_⟩
    have sx2 : SameX A (upd H1 b (.lst (us.eraseIdx n))) (upd (upd H1 b (.lst (us.eraseIdx n))) a (.lst (vs ++ [xv]))) := fun y u n e => by
      rw [upd_ne fun z : y = a => n (by rw [z]; exact aA)]
      exact e
    obtain ⟨t2, S3, _⟩ := S2.own_upd (d' := .lst (fs ++ [x])) (u := .lst (vs ++ [xv])) e5' h1 rfl ⟨_, upd_same, ((r3.ext (sx b _ bA)).append (.one (rx.ext (sx b _ bA)))).ext sx2⟩
    exact k _ c1 w1 A σ _ (((Step.p S.mem s1).trans t1).trans t2) S3 ((q1.other nb).other na)
/-! ### a def that hands back a new list -/
def xSF (p : Addr) (F : TDenL) : TS := fun E σ H => ∃ H0 B A ρ c P, SimP p H0 B A H σ ρ ∧ PotAt H p c ∧ F ρ c P ∧ ∀ ds c', P ds c' → ∀ a vs H', SmP p H0 H' → PotAt H' p c' → H0 a = none → H' a = some (.lst vs) → RpL (a :: B) H' ds vs → E.rt (.ref a) H'
abbrev XSF (X : Cx) (p : Addr) (st : List Stmt) (F : TDenL) : Prop := PSs X st (xSF p F)
def fRetO (i : Nat) : TDenL := fun ρ c P => ∃ ds, oLst i ρ = some ds ∧ P ds c
theorem xsf_ret {i : Nat} {x : Str} {pp pos : Pos} (hN : X.N[i]? = some x) (hv : Vis X.env.scope x)
    (hd : (x == ("__debug__" : Str)) = false := by decide) (hcd : (x == ("__classdict__" : Str)) = false := by decide) : XSF X p [.Return (some (.Name x pp)) pos] (fRetO i) :=
  (pss_one (ps_ret (pe_var hN hv hd hcd))).imp fun E σ H ⟨H0, B, A, ρ, c, P, S, q, ⟨ds, e1, w⟩, k⟩ => by
    have e5 := oLst_some e1
    obtain ⟨a, h1, aA, vs, h2, h3⟩ := S.sl i _ e5
    have hS := S.same
    obtain ⟨hpB, H1, eH, SS⟩ := S
    obtain ⟨b, g1, g2⟩ := SS.own i _ e5
    rw [h1] at g1; cases g1
    have n : a ≠ p := fun z => g2 (z ▸ hpB)
    have n0 : H0 a = none := by
      rw [← eH a n]
      exact (SS.newA a aA).resolve_left g2
    refine ⟨.ref a, h1, k ds c w a vs H hS q n0 h2 (h3.cut fun b hb => ?_)⟩
    rcases List.mem_cons.mp hb with rfl | hb
    · exact .inl aA
    · exact .inl (SS.sub b hb)
def xSeqF (F : TSt) (G : TDenL) : TDenL := fun ρ c P => F ρ c fun o c1 => ∃ ρ1, o = .nx ρ1 ∧ G ρ1 c1 P
theorem xsf_cons {st : Stmt} {rest : List Stmt} {F : TSt} {G : TDenL} (h1 : XS X p st F) (h2 : XSF X p rest G) : XSF X p (st :: rest) (xSeqF F G) :=
  (pss_cons h1 h2).imp fun E σ H ⟨H0, B, A, ρ, c, P, S, q, w, k⟩ => ⟨H0, B, A, ρ, c, _, S, q, w, fun o c1 ⟨ρ1, eo, w1⟩ => by
    subst eo
    exact fun A' σ' H' t S' q' => ⟨H0, B, A', ρ1, c1, P, S', q', w1, k⟩⟩
end
theorem fn_xf {CX : CXT} {P : Program} {w : World} {K : PySem.W.Frag} {mg : Str → Option Value} {base : Heap} {x qual : Str} {params : Arguments} {body : List Stmt} {scope : Scope} {dvs : List V} {kws : List (Str × V)} {f : Addr} {fd : FuncData} {N ps : List Str} {k : Nat} {R : List D → Nat → (List D → Nat → Prop) → Prop} {G : Addr → TDenL}
    (Fd : FunD K x qual params body scope dvs kws f fd) (S : FnScope N ps scope) (hF : ∀ p ds c Q, R ds c Q → ds.length + 1 = ps.length ∧ G p (rho0 N.length (.raw (.ref p) :: ds)) c Q)
    (hb : ∀ (p : Addr) (cdv : Value) (A : Around) (outer : List Env) (s : Shared) (H : Hp) (E : XK), Room k (A.deeper (envOfC qual scope s.heap.objs.size f cdv)) → XSF (cxOf CX P w K mg base N qual scope f cdv A outer s H E).nox p body (G p)) : FnOk P w K mg base CX (k + 1) f fd ps (spXF R) := by
  refine Fd.ok S (fun vs H Q E h => ?_) (fun cdv A outer s H vs Q E hr h => ?_)
  · obtain ⟨p, A, ds, us, c, P, rfl, _, _, _, r, h, _⟩ := h
    rw [List.length_cons, r.length, (hF p ds c P h).1]
  · obtain ⟨p, A', ds, us, c, P, rfl, hp, q, m, r, h, kk⟩ := h
    obtain ⟨_, h2⟩ := hF p ds c P h
    exact ⟨_, (hb p cdv A outer s H E hr).nox, H, A', A', rho0 N.length (.raw (.ref p) :: ds), c, _, ⟨hp, H, fun _ _ => rfl, sim0 N m ⟨.ref p, us, rfl, rfl, r⟩⟩, q, h2, fun xs c' po a vs H' s2 q2 n0 h1 r1 => kk xs c' a vs H' po s2 q2 n0 h1 r1⟩
section
variable {X : Cx} {p : Addr}
/-! ### a call of a drawing def with things looked at: what comes is flat -/
def notPot : D → Bool
  | .lst (.int _ :: _) => false
  | .lst (.raw _ :: _) => false
  | _ => true
theorem VwL.pot2 {c : Nat} {A : List Addr} {H : Hp} {ds : List D} {vs : List V} (hp : p ∈ A) (q : PotAt H p c) (h : VwL A H ds vs) (np : ds.all notPot = true) : RpL [p] H ds vs := by
  induction ds generalizing vs with
  | nil => exact h
  | cons d ds ih =>
    obtain ⟨v, r, rfl, h1, h2⟩ := h
    rw [List.all_cons, Bool.and_eq_true] at np
    refine ⟨v, r, rfl, ?_, ih h2 np.2⟩
    have cut : ∀ a ∈ [p], a ∈ A ∨ H a = none := fun a ha => by rw [List.mem_singleton.mp ha]; exact .inl hp
    rcases h1 with h1 | ⟨a, e, h1⟩
    · exact h1.cut cut
    · subst e
      obtain ⟨i, j, k, g1, _⟩ := q
      cases d with
      | lst ds =>
        obtain ⟨us, g2, g3⟩ := h1
        have na : a ∉ [p] := fun z => by
          rw [List.mem_singleton.mp z, g1] at g2
          cases g2
          cases ds with
          | nil => cases (show [V.int i, V.int j, V.int k] = [] from g3)
          | cons d0 ds =>
            obtain ⟨v0, r0, e0, r1, _⟩ := g3
            cases e0
            cases d0 with
            | int _ => exact absurd np.1 (by simp [notPot])
            | raw _ => exact absurd np.1 (by simp [notPot])
            | non => cases r1
            | bl _ => cases r1
            | str _ => cases r1
            | tup _ => obtain ⟨_, _, e, _⟩ := r1; cases e
            | lst _ => obtain ⟨_, _, e, _⟩ := r1; cases e
            | dic _ => obtain ⟨_, _, e, _⟩ := r1; cases e
            | ins _ _ => obtain ⟨_, _, _, e, _⟩ := r1; cases e
            | exc _ _ => obtain ⟨_, _, _, e, _⟩ := r1; cases e
            | clo _ => obtain ⟨_, _, e, _⟩ := r1; cases e
        exact ⟨a, us, rfl, na, .inl g2, g3.cut cut⟩
      | dic ds =>
        obtain ⟨us, g2, g3⟩ := h1
        have na : a ∉ [p] := fun z => by rw [List.mem_singleton.mp z, g1] at g2; cases g2
        exact ⟨a, us, rfl, na, .inl g2, g3.cut cut⟩
      | _ => exact h1.elim
def xCallV (p : Addr) (i : Nat) (R : List D → Nat → (D → Nat → Prop) → Prop) (g : Rho → Option (List D)) : TDen := fun ρ c P => potIn i p ρ ∧ ∃ ds, g ρ = some ds ∧ ds.all notPot = true ∧ R ds c fun d c1 => d.flat = true ∧ P d c1
theorem x_callV {k i : Nat} {x y : Str} {R : List D → Nat → (D → Nat → Prop) → Prop} {pp py pos : Pos} {es : List Expr} {g : Rho → Option (List D)} (G : FnX X k x (spX R)) (hr : Room k X.A) (hg : Gl X x) (hN : X.N[i]? = some y) (hv : Vis X.env.scope y) (ha : QLV X es g)
    (hd : (y == ("__debug__" : Str)) = false := by decide) (hcd : (y == ("__classdict__" : Str)) = false := by decide)
    (hdb : (x == ("__debug__" : Str)) = false := by decide) (he : starEach (.Name y py :: es) X.env = (false, eval (.Name y py) X.env) :: starEach es X.env := by rfl) (hpl : (backTo pos (starEach es X.env)).any (·.1) = false := by rfl) :
    XE X p (.Call (.Name x pp) (.Name y py :: es) [] pos) (xCallV p i R g) := by
  obtain ⟨f, fd, ps, h1, h2, h3, h4⟩ := G.ex
  refine (pe_call h2 hr hg h1 h3 h4 .nil pass0 (pa_cons (pe_var hN hv hd hcd) ha he) hdb he hpl).imp fun σ H Q ⟨H0, B, A, ρ, c, P, S, q, ⟨wi, ds, e1, np, w⟩, k⟩ => ?_
  refine ⟨.ref p, S.pot wi, ?_⟩
  have hA := S.mem
  have S0 := S
  obtain ⟨hpB, HH, _, SS⟩ := S
  refine ⟨HH, B, A, ρ, ds, SS, e1, fun vs H1 s1 r1 => ?_⟩
  have q1 := q.ext s1
  have m1 : MutA [p] H1 := fun a ha => by
    rw [List.mem_singleton.mp ha]
    obtain ⟨i, j, k, g1, _⟩ := q1
    exact ⟨_, g1, rfl⟩
  refine ⟨p, [p], ds, vs, c, _, by rw [List.append_nil], List.mem_singleton.mpr rfl, q1, m1, VwL.pot2 hA q1 r1 np, w, fun d c2 v H2 ⟨fl, w2⟩ s2 q2 r2 => ?_⟩
  have S2 := (S0.ext s1).step s2 q2
  exact k d c2 v H2 w2 ((s1.p p).trans s2) q2 (r2.flat S2.muts fl)
end
end LY
set_option Elab.async false
set_option linter.all false
set_option maxRecDepth 100000
set_option maxHeartbeats 1000000
/-! LT6: powers -/
namespace LY
open PySem PySem.Spec PyProof.Rows L2
def CPowX (i j : Int) : Prop := 0 ≤ j ∧ (Builtin.Int.intBits i : Int) * j ≤ 2 ^ 27
theorem op_powX {X : Cx} : OpR X (binaryOp .Pow) (rI CPowX fun i j => .int (i ^ j.toNat)) := opI fun _ _ _ _ _ _ _ hc q => PyProof.Rows.pow_int hc.1 hc.2 q
abbrev fPow := fI fun i j => if 0 ≤ j ∧ j ≤ 1000 ∧ i.natAbs < 2 ^ 1000 then some (.int (i ^ j.toNat)) else none
theorem bits_le {i : Int} {n : Nat} (h : i.natAbs < 2 ^ n) : Builtin.Int.intBits i ≤ n := by
  unfold Builtin.Int.intBits
  split
  · omega
  · rename_i hz
    have h0 : i.natAbs ≠ 0 := by simpa using hz
    have := (Nat.log2_lt h0).mpr h
    omega
theorem b2_pow : B2 (rI CPowX fun i j => .int (i ^ j.toNat)) fPow := b2_rI fun A H i j d e => by
  split at e
  · cases e
    rename_i h
    refine ⟨⟨h.1, ?_⟩, rfl⟩
    have hb := bits_le h.2.2
    have h1 : (Builtin.Int.intBits i : Int) * j ≤ 1000 * 1000 := Int.mul_le_mul (by omega) h.2.1 h.1 (by omega)
    omega
  · cases e
end LY
set_option Elab.async false
set_option linter.all false
set_option maxRecDepth 100000
set_option maxHeartbeats 2000000
/-! LY19: list(zip(xs, ys)), list(range(n)) -/
namespace PySem
open Sem (wp)
open Calls PyProof.Rows PySem.W
theorem ly_zip_len : typeLookup (.type "zip") "__len__" = pure none := am_miss_of_fast (by decide +kernel)
theorem ly_zip_hint : typeLookup (.type "zip") "__length_hint__" = pure none := am_miss_of_fast (by decide +kernel)
def ZSt (z TI TO i1 i2 l1 l2 S : Addr) (xs ys : Array Value) (i : Nat) (h : Heap) : Prop :=
  IsPair h TI (.ref i1) (.ref i2) ∧ h.IsListIter i1 l1 i ∧ h.IsListIter i2 l2 i ∧ h.IsList l1 xs ∧ h.IsList l2 ys ∧
    ((IsZip h z TI TO .none ∧ ∃ a b, IsPair h TO a b) ∨ ∃ T f oT, IsZipHeld h z TI TO T f ∧ h.get? T = some oT ∧ T ≠ z ∧ T ≠ i1 ∧ T ≠ i2 ∧ T ≠ S ∧ ∃ o2, h.get? TO = some o2)
section
variable {prog : Program} {w : World} {A : Around} {R : Result → Shared → Prop} {z TI TO i1 i2 l1 l2 S : Addr} {xs ys : Array Value}
/-- the address is none of the changing ones -/
def ZOff (z TO i1 i2 S b : Addr) : Prop := b ≠ z ∧ b ≠ TO ∧ b ≠ i1 ∧ b ≠ i2 ∧ b ≠ S
/-- the tuples that were given out -/
def ZOut (z TO i1 i2 S : Addr) (xs ys : Array Value) (base : Nat) (acc : List Addr) (h : Heap) : Prop :=
  ∀ (j : Nat) (T : Addr), acc[j]? = some T → ∃ x y, xs[j]? = some x ∧ ys[j]? = some y ∧ IsPair h T x y ∧ ZOff z TO i1 i2 S T ∧ base ≤ T
theorem ly_zip_loop (hh : A.handled = none) (D : ZipApart z TI TO i1 i2 l1 l2) (Sz : S ≠ z) (STI : S ≠ TI) (STO : S ≠ TO) (Si1 : S ≠ i1) (Si2 : S ≠ i2) (Sl1 : S ≠ l1) (Sl2 : S ≠ l2) (base : Nat) (res : Value) (hn : min xs.size ys.size ≤ sizeLine) :
    ∀ (k i : Nat) (s : Shared) (acc : List Addr) (c : Nat), min xs.size ys.size - i = k → i ≤ min xs.size ys.size → ZSt z TI TO i1 i2 l1 l2 S xs ys i s.heap → s.heap.get? S = some { cls := .type "list", dict := none, data := .seq (acc.map Value.ref).toArray c, slots := #[] } →
    acc.length = i → ZOut z TO i1 i2 S xs ys base acc s.heap → base ≤ s.heap.objs.size →
    (∀ h' acc' c', (∀ b o, ZOff z TO i1 i2 S b → s.heap.get? b = some o → h'.get? b = some o) → h'.get? S = some { cls := .type "list", dict := none, data := .seq (acc'.map Value.ref).toArray c', slots := #[] } → acc'.length = min xs.size ys.size → ZOut z TO i1 i2 S xs ys base acc' h' → R (.ok (.ret res)) { s with heap := h' }) →
    codeAny (model prog w) A (.builtin "list.extend.loop" ⟨[.ref S, .ref z, res], []⟩) R s := by
  intro k
  induction k with
  | zero =>
    intro i s acc c hk hi hst hS hl hout hb hR
    have hin : i = min xs.size ys.size := by omega
    obtain ⟨hTI, h1, h2, hl1, hl2, hz⟩ := hst
    have hend : xs[i]? = none ∨ ys[i]? = none := by
      rcases Nat.le_total xs.size ys.size with h | h
      · exact .inl (Array.getElem?_eq_none (by rw [hin, Nat.min_eq_left h]; exact Nat.le_refl _))
      · exact .inr (Array.getElem?_eq_none (by rw [hin, Nat.min_eq_right h]; exact Nat.le_refl _))
    refine codeAny_builtin F.entry_extend_loop ?_
    rw [Around.under_plainId F.plain_extend_loop _]
    show wpAny _ A.in1 (pyNext (.ref z) >>= _) _ _ s
    have fin : ∀ h', (∀ b o, ZOff z TO i1 i2 S b → s.heap.get? b = some o → h'.get? b = some o) → h'.get? S = _ → R (.ok (.ret res)) { s with heap := h' } := fun h' hk' hS' => hR h' acc c hk' hS' (by rw [hl, hin]) fun j T e => by
      obtain ⟨x, y, e1, e2, e3, e4, e5⟩ := hout j T e
      exact ⟨x, y, e1, e2, hk' _ _ e4 e3, e4, e5⟩
    rcases hz with ⟨hz, a, b, hTO⟩ | ⟨T, f, oT, hz, hT, r1, r2, r3, r4, o2, hTO2⟩
    · refine wpAny_bind (wpAny_pyNext_zip_end (A := A.in1) hh D hz hTI hTO h1 h2 hl1 hl2 hend fun h' hk' => wpAny_pure (fin h' (fun b o ob e => hk' b o ob.1 ob.2.1 ob.2.2.1 ob.2.2.2.1 e) (hk' _ _ Sz STO Si1 Si2 hS)))
    · refine wpAny_bind (wpAny_pyNext_zip_end_held (A := A.in1) hh D hz hT hTI h1 h2 hl1 hl2 hend fun h' hk' => wpAny_pure (fin h' (fun b o ob e => hk' b o ob.1 ob.2.2.1 ob.2.2.2.1 e) (hk' _ _ Sz Si1 Si2 hS)))
  | succ k ih =>
    intro i s acc c hk hi hst hS hl hout hb hR
    have hlt : i < min xs.size ys.size := by omega
    have hix : i < xs.size := by omega
    have hiy : i < ys.size := by omega
    have ex := Array.getElem?_eq_getElem hix
    have ey := Array.getElem?_eq_getElem hiy
    obtain ⟨hTI, h1, h2, hl1, hl2, hz⟩ := hst
    have lt : ∀ {c o}, s.heap.get? c = some o → s.heap.objs.size ≠ c := fun e => Nat.ne_of_gt (Heap.lt_size e)
    have n1 : s.heap.objs.size ≠ i1 := let ⟨_, e, _⟩ := h1; lt e
    have n2 : s.heap.objs.size ≠ i2 := let ⟨_, e, _⟩ := h2; lt e
    have nS := lt hS
    refine codeAny_builtin F.entry_extend_loop ?_
    rw [Around.under_plainId F.plain_extend_loop _]
    show wpAny _ A.in1 (pyNext (.ref z) >>= _) _ _ s
    -- what follows the item
    have go : ∀ (h' : Heap), s.heap.objs.size ≠ z → s.heap.objs.size ≠ TO → h'.IsListIter i1 l1 (i + 1) → h'.IsListIter i2 l2 (i + 1) → IsPair h' s.heap.objs.size xs[i] ys[i] → h'.objs.size = s.heap.objs.size + 1 →
        (∀ c o, c ≠ z → c ≠ TO → c ≠ i1 → c ≠ i2 → s.heap.get? c = some o → h'.get? c = some o) →
        (∃ T f oT, IsZipHeld h' z TI TO T f ∧ h'.get? T = some oT ∧ T ≠ z ∧ T ≠ i1 ∧ T ≠ i2 ∧ T ≠ S ∧ ∃ o2, h'.get? TO = some o2) → 
        wpAny (model prog w) A.in1 (do updateSeq S (·.push (.ref s.heap.objs.size)); again (.builtin "list.extend.loop" ⟨[.ref S, .ref z, res], []⟩))
          (fun fin s' => match fin with | .done f => R (.ok f) s' | .again c' => c'.quiet = true ∧ codeAny (model prog w) A c' R s') (fun e s' => R (.error e) s') { s with heap := h' } := by
      intro h' nz nTO a3 a4 a5 a6 hk' held
      have hS' := hk' S _ Sz STO Si1 Si2 hS
      have upo : ∀ b o, b ≠ S → h'.get? b = some o → (h'.update S (Obj.mapSeq (·.push (.ref s.heap.objs.size)))).get? b = some o := fun b o n e => (Heap.get?_update_other _ _ (Ne.symm n)).trans e
      have hnewS := Heap.get?_update_self (Obj.mapSeq (·.push (Value.ref s.heap.objs.size))) hS' rfl
      refine wpAny_bind (wpAny_updateSeq hS' rfl (wpAny_pure ⟨plainId_quiet F.plain_extend_loop _, ih (i + 1) _ (acc ++ [s.heap.objs.size]) (c + 1) (by omega) hlt ?_ ?_ (by simp [hl]) ?_ ?_ fun h'' acc' c' hk'' hS'' hl'' hout'' => ?_⟩) (by simp [hl]; omega) (by simp [hl]; omega))
      · obtain ⟨T, f, oT, g1, g2, g3, g4, g5, g6, o2, g7⟩ := held
        refine ⟨upo _ _ STI.symm (hk' _ _ D.TIz D.TITO D.TIi1 D.TIi2 hTI), a3.at fun o e => upo _ o Si1.symm e, a4.at fun o e => upo _ o Si2.symm e, hl1.at fun o e => upo _ o Sl1.symm (hk' _ o D.l1z D.l1TO D.l1i1 D.l1i2 e), hl2.at fun o e => upo _ o Sl2.symm (hk' _ o D.l2z D.l2TO D.l2i1 D.l2i2 e), .inr ⟨T, f, oT, upo _ _ Sz.symm g1, upo _ _ g6 g2, g3, g4, g5, g6, o2, upo _ _ STO.symm g7⟩⟩
      · refine hnewS.trans ?_
        simp [Obj.mapSeq]
      · intro j T e
        rw [List.getElem?_append] at e
        split at e
        · obtain ⟨x, y, e1, e2, e3, e4, e5⟩ := hout j T e
          exact ⟨x, y, e1, e2, upo _ _ e4.2.2.2.2 (hk' _ _ e4.1 e4.2.1 e4.2.2.1 e4.2.2.2.1 e3), e4, e5⟩
        · rename_i hj
          have hj0 : j - acc.length = 0 := by
            have := (List.getElem?_eq_some_iff.mp e).1
            simp at this
            omega
          rw [hj0] at e
          cases e
          have hji : j = i := by omega
          subst hji
          exact ⟨_, _, ex, ey, upo _ _ nS a5, ⟨nz, nTO, n1, n2, nS⟩, hb⟩
      · show base ≤ Array.size (Heap.objs _)
        rw [Heap.size_update, a6]
        omega
      · exact hR h'' acc' c' (fun b o ob e => hk'' b o ob (upo b o ob.2.2.2.2 (hk' b o ob.1 ob.2.1 ob.2.2.1 ob.2.2.2.1 e))) hS'' hl'' hout''
    rcases hz with ⟨hz, a, b, hTO⟩ | ⟨T, f, oT, hz, hT, r1, r2, r3, r4, o2, hTO2⟩
    · refine wpAny_bind (wpAny_pyNext_zip_item D hz hTI hTO h1 h2 hl1 hl2 ex ey fun h' a1 a2 a3 a4 a5 a6 hk' => ?_)
      exact go h' (lt hz) (lt hTO) a3 a4 a5 a6 hk' ⟨s.heap.objs.size, false, _, a1, a5, lt hz, n1, n2, nS, _, a2⟩
    · refine wpAny_bind (wpAny_pyNext_zip_item_held D hz hT hTI h1 h2 hl1 hl2 ex ey fun h' a1 a3 a4 a5 a6 hk' => ?_)
      have nTO : s.heap.objs.size ≠ TO := lt hTO2
      exact go h' (lt hz) nTO a3 a4 a5 a6 (fun c o c1 _ c3 c4 e => hk' c o c1 c3 c4 e) ⟨T, true, oT, a1, hk' _ _ r1 r2 r3 hT, r1, r2, r3, r4, o2, hk' _ _ D.TOz D.TOi1 D.TOi2 hTO2⟩
variable {E : Value → Shared → Prop} {s : Shared}
/-- list(z), z a new zip of two lists -/
theorem ly_call_list_zip {Q : Value → Shared → Prop} (hh : A.handled = none) (D : ZipApart z TI TO i1 i2 l1 l2) (hz : IsZip s.heap z TI TO .none) (hTI : IsPair s.heap TI (.ref i1) (.ref i2)) (hTO : ∃ a b, IsPair s.heap TO a b)
    (h1 : s.heap.IsListIter i1 l1 0) (h2 : s.heap.IsListIter i2 l2 0) (hl1 : s.heap.IsList l1 xs) (hl2 : s.heap.IsList l2 ys) (hn : min xs.size ys.size ≤ sizeLine)
    (hQ : ∀ (h' : Heap) (acc : List Addr) (c : Nat), (∀ b o, b ≠ z → b ≠ TO → b ≠ i1 → b ≠ i2 → s.heap.get? b = some o → h'.get? b = some o) → h'.get? s.heap.objs.size = some { cls := .type "list", dict := none, data := .seq (acc.map Value.ref).toArray c, slots := #[] } → acc.length = min xs.size ys.size →
      (∀ (j : Nat) (T : Addr), acc[j]? = some T → ∃ x y, xs[j]? = some x ∧ ys[j]? = some y ∧ IsPair h' T x y ∧ s.heap.objs.size < T) → Q (.ref s.heap.objs.size) { s with heap := h' }) :
    wpAny (model prog w) A (call (.type "list") [.ref z]) Q E s := by
  refine callType_codes (Q₁ := fun obj s₁ => obj = .ref s.heap.objs.size ∧ s₁ = { s with heap := s.heap.push { cls := .type "list", data := .seq #[] } }) PySem.F.called_list (PySem.F.typeCall_list_1 _) PySem.F.entry_list_init
    (code_list_new _ ⟨rfl, rfl⟩) fun obj s₁ h₁ => ?_
  obtain ⟨rfl, rfl⟩ := h₁
  have hS : (s.heap.push { cls := .type "list", data := .seq #[] }).get? s.heap.objs.size = some { cls := .type "list", data := .seq #[] } := Heap.get?_push_size _ rfl
  have pk : ∀ b o, s.heap.get? b = some o → (s.heap.push { cls := .type "list", data := .seq #[] }).get? b = some o := fun b o e => Heap.get?_push_of_some _ e
  have ne : ∀ {c o}, s.heap.get? c = some o → s.heap.objs.size ≠ c := fun e => Nat.ne_of_gt (Heap.lt_size e)
  have Sz := ne hz
  have STI := ne hTI
  obtain ⟨ta, tb, hTO⟩ := hTO
  have STO := ne hTO
  have Si1 : s.heap.objs.size ≠ i1 := let ⟨_, e, _⟩ := h1; ne e
  have Si2 : s.heap.objs.size ≠ i2 := let ⟨_, e, _⟩ := h2; ne e
  have Sl1 : s.heap.objs.size ≠ l1 := let ⟨_, e, _⟩ := hl1; ne e
  have Sl2 : s.heap.objs.size ≠ l2 := let ⟨_, e, _⟩ := hl2; ne e
  refine ⟨⟨_, hS, rfl⟩, PySem.F.args_list_init_2 _ _, ?_⟩
  show wpAny _ A.in1.in1 (do let old ← Builtin.List.listItems (.ref s.heap.objs.size); Builtin.List.listUpdate (.ref s.heap.objs.size) (fun _ => #[]); letGo old.toList.reverse; Builtin.List.listExtendWith (.ref s.heap.objs.size) (.ref z) .none) _ _ _
  refine wpAny_bind ?_
  unfold Builtin.List.listItems
  refine wpAny_bind (wpAny_seqItems hS rfl (wpAny_pure ?_))
  show wpAny _ A.in1.in1 (updateSeq s.heap.objs.size (fun _ => #[]) >>= fun _ => letGo (#[] : Array Value).toList.reverse >>= fun _ => Builtin.List.listExtendWith (.ref s.heap.objs.size) (.ref z) .none) _ _ _
  refine wpAny_bind (wpAny_updateSeq hS rfl ?_)
  have hS2 := Heap.get?_update_self (Obj.mapSeq (fun _ => (#[] : Array Value))) hS rfl
  have oth : ∀ b o, b ≠ s.heap.objs.size → s.heap.get? b = some o → ((s.heap.push { cls := .type "list", data := .seq #[] }).update s.heap.objs.size (Obj.mapSeq (fun _ => (#[] : Array Value)))).get? b = some o :=
    fun b o hb e => (Heap.get?_update_other _ _ (Ne.symm hb)).trans (pk b o e)
  refine wpAny_bind (wpAny_letGo ?_)
  unfold Builtin.List.listExtendWith
  have hzT : Shared.TypeIs { s with heap := (s.heap.push { cls := .type "list", data := .seq #[] }).update s.heap.objs.size (Obj.mapSeq (fun _ => (#[] : Array Value))) } (.ref z) "zip" := ⟨_, oth z _ Sz.symm hz, rfl⟩
  refine wpAny_bind (wpAny_typeOf hzT ?_)
  have e1 : Builtin.List.listSameRef (.ref s.heap.objs.size) (.ref z) = false := by simp [Builtin.List.listSameRef, Sz]
  have e2 : (Value.type "zip" == Value.type "list") = false := by decide
  have e3 : (Value.type "zip" == Value.type "tuple") = false := by decide
  simp only [e1, e2, e3, Bool.or_false, Bool.false_eq_true, if_false]
  refine wpAny_bind (wpAny_pyIter_zip (oth z _ Sz.symm hz) ?_)
  refine wpAny_bind (wpAny_holding ?_)
  unfold Builtin.List.listLengthHint
  refine wpAny_bind (wpAny_specialOf hzT ly_zip_len ?_)
  show wpAny _ A.in1.in1 (specialOf (Value.ref z) (Str.ofString "__length_hint__") >>= _) _ _ _
  refine wpAny_bind (wpAny_specialOf hzT ly_zip_hint ?_)
  refine wpAny_pure ?_
  show wpAny _ A.in1.in1 (rule "list.extend.makes-room" >>= fun _ => Builtin.List.listTouch (.ref s.heap.objs.size) >>= fun _ =>
    again (.builtin "list.extend.loop" ⟨[.ref s.heap.objs.size, .ref z, .none], []⟩)) _ _ _
  refine wpAny_bind (wpAny_rule ?_)
  refine wpAny_bind ?_
  show wpAny _ A.in1.in1 (updateSeq s.heap.objs.size (·.push .none) >>= fun _ => updateSeq s.heap.objs.size (·.pop)) _ _ _
  refine wpAny_bind (wpAny_updateSeq hS2 rfl ?_)
  have hS3 := Heap.get?_update_self (Obj.mapSeq (·.push Value.none)) hS2 rfl
  refine wpAny_updateSeq (hz := by seq_fits) hS3 rfl ?_
  have hS4 := Heap.get?_update_self (Obj.mapSeq (·.pop)) hS3 rfl
  have oth2 : ∀ b o, b ≠ s.heap.objs.size → s.heap.get? b = some o → ((((s.heap.push { cls := .type "list", data := .seq #[] }).update s.heap.objs.size (Obj.mapSeq (fun _ => (#[] : Array Value)))).update s.heap.objs.size (Obj.mapSeq (·.push Value.none))).update s.heap.objs.size (Obj.mapSeq (·.pop))).get? b = some o :=
    fun b o hb e => (Heap.get?_update_other _ _ (Ne.symm hb)).trans ((Heap.get?_update_other _ _ (Ne.symm hb)).trans (oth b o hb e))
  refine wpAny_pure ⟨plainId_quiet F.plain_extend_loop _, ly_zip_loop (A := A.in1) (S := s.heap.objs.size) hh D Sz STI STO Si1 Si2 Sl1 Sl2 (s.heap.objs.size + 1) .none hn (min xs.size ys.size) 0 _ [] _ (by omega) (Nat.zero_le _)
    ⟨oth2 _ _ STI.symm hTI, h1.at fun o e => oth2 _ o Si1.symm e, h2.at fun o e => oth2 _ o Si2.symm e, hl1.at fun o e => oth2 _ o Sl1.symm e, hl2.at fun o e => oth2 _ o Sl2.symm e, .inl ⟨oth2 _ _ Sz.symm hz, ta, tb, oth2 _ _ STO.symm hTO⟩⟩ hS4 rfl (fun j T e => by simp at e) ?_ fun h' acc' c' hk' hS' hl' hout => ?_⟩
  · show _ ≤ Array.size (Heap.objs _)
    rw [Heap.size_update, Heap.size_update, Heap.size_update, Heap.size_push]
    exact Nat.le_refl _
  · refine ⟨rfl, hQ h' acc' c' (fun b o b1 b2 b3 b4 e => hk' b o ⟨b1, b2, b3, b4, (ne e).symm⟩ (oth2 b o (ne e).symm e)) hS' hl' fun j T e => ?_⟩
    obtain ⟨x, y, q1, q2, q3, _, q4⟩ := hout j T e
    exact ⟨x, y, q1, q2, q3, q4⟩
end
end PySem
set_option Elab.async false
set_option linter.all false
set_option maxRecDepth 100000
set_option maxHeartbeats 1000000
/-! LX1: an own exception made as a value: the __init__ that says super().__init__(value) and self.value = value -/
namespace LY
open PySem PySem.Spec PyProof.Rows L2 PySem.Calls
/-- what the written part says of an own exception class C, over D whose __init__ it is -/
structure XcC (K : PySem.W.Frag) (D C : Addr) : Prop where
  o : OexC K C
  no : PySem.W.findIn K (.ref C) "value" = some none
  cd : (PySem.W.clsIn K C).isSome = true
  sup : PySem.W.ks_superIn K C D "__init__" = some (some (.builtin "ValueError.__init__"))
  ve : PySem.W.subIn K (.ref C) (.type "ValueError") = some true
  md : PySem.W.mroIn K C (.ref D) = some true
/-- the promise of the __init__ -/
def spI (K : PySem.W.Frag) (D : Addr) : Sp := fun vs H Q _ => ∃ a C y, vs = [.ref a, y] ∧ XcC K D C ∧ H a = some (exo a C none) ∧ ∀ d, H d = none → d ≠ a → Q .non (upd (upd H d (exd d [("value", y)])) a (exo a C (some d)))
def cxI (CX : CXT) (P : Program) (w : World) (K : PySem.W.Frag) (mg : Str → Option Value) (base : Heap) (N : List Str) (qual : Str) (scope : Scope) (f : Addr) (cd : Value) (cc : Addr) (A : Around) (outer : List Env) (s : Shared) (H : Hp) (E : XK) : Cx where
  prog := P
  w := w
  K := K
  mg := mg
  base := base
  A := A.deeper (PySem.W.ksEnv qual scope s.heap.objs.size f cd cc)
  N := N
  s_0 := s
  H_0 := H
  env := PySem.W.ksEnv qual scope s.heap.objs.size f cd cc
  outer := outer
  stack := PySem.W.ksEnv qual scope s.heap.objs.size f cd cc :: outer
  ex := []
  calm := true
  fn := fun _ => false
  pn := []
  xe := fun e s' => wpAny (model P w) (A.deeper (PySem.W.ksEnv qual scope s.heap.objs.size f cd cc)) (leaving (PySem.W.ksEnv qual scope s.heap.objs.size f cd cc) e) (fun _ s'' => CX outer H s E e s'') (fun e' s'' => CX outer H s E e' s'') s'
section
variable {CX : CXT} {P : Program} {w : World} {K : PySem.W.Frag} {mg : Str → Option Value} {base : Heap} {k : Nat} {f D cc cda : Addr} {name qual : Str} {params : Arguments} {scope : Scope} {dV kV doc pm ct oc ccl cl : Value} {an od cdd cld : Option Addr} {osl ccs csl : Array (Option Value)} {vs0 : Array Value} {file : Str} {tf : Tok}
/-- what is asked of the __init__ -/
structure InitOk (P : Program) (K : PySem.W.Frag) (mg : Str → Option Value) (D cc cda : Addr) (params : Arguments) (scope : Scope) : Prop where
  kind : scope.kind = .function
  co : scope.isCoroutine = false
  gen : scope.isGenerator = false
  nocell : ∀ y ∈ scope.names, y.2 ≠ .cell
  free : ∀ y, scope.names.lookup y = some .free → y = ("__class__" : Str)
  kself : scope.names.lookup ("self" : Str) = some .local
  kvalue : scope.names.lookup ("value" : Str) = some .local
  ksuper : scope.names.lookup ("super" : Str) = some .globalImplicit
  kcls : scope.names.lookup ("__class__" : Str) = some .free
  par : ∃ ar, (params.posonlyargs ++ params.args).head? = some ar ∧ ar.arg = "self"
  code : ∃ ccl cdd vs file tf ccs, K.lookup cda = some ⟨ccl, cdd, .fields vs, ccs⟩ ∧ vs[2]? = some (.str file tf) ∧ ((P.main.file : Str) == file) = true
  cell : ∃ cl cld csl, K.lookup cc = some ⟨cl, cld, .cell (some (.ref D)), csl⟩
  isD : (PySem.W.clsIn K D).isSome = true
  sup : mg "super" = none
  op : PySem.W.nsIn K PySem.cStatics "thirdparty.any" = some none
  top : (P.main.scope.names.lookup ("super" : Str)).isSome = false
theorem inv_startI (IO : InitOk P K mg D cc cda params scope) {A : Around} {outer : List Env} {s : Shared} {H : Hp} {E : XK} {us : List Value} {vs : List V} {h₀ : Heap} {tk : Nat} (hd : A.handled = none) (e0 : Env0 P w K mg base A outer s H) (r : Vals vs us) (hl : vs.length = 2)
    (hns : h₀.Ns s.heap.objs.size (fun x => (List.zip (["self", "value"] : List Str) us).reverse.lookup x)) (hk : ∀ b o, s.heap.get? b = some o → h₀.get? b = some o) :
    Inv (cxI CX P w K mg base (["self", "value"] : List Str) qual scope f (.ref cda) cc A outer s H E) [] (vs.map some) H { s with heap := h₀, toks := tk } := by
  have noA : ∀ b : Addr, b ∉ (cxI CX P w K mg base (["self", "value"] : List Str) qual scope f (.ref cda) cc A outer s H E).ex := fun b z => absurd (show b ∈ ([] : List Addr) from z) (by simp)
  have KX : K.In s.heap := e0.mod.kin.keeps fun b o e => (e0.bs b o e).1
  obtain ⟨cl, cld, csl, hcell⟩ := IO.cell
  have lc : ∀ y c, (PySem.W.ksEnv qual scope s.heap.objs.size f (.ref cda) cc).cells.lookup y = some c → y = ("__class__" : Str) ∧ c = cc := fun y c h => by
    have h : (List.lookup y [(("__class__" : Str), cc)]) = some c := h
    by_cases e : y = ("__class__" : Str)
    · subst e; simp [List.lookup] at h; exact ⟨rfl, h.symm⟩
    · have : (y == ("__class__" : Str)) = false := by simpa using e
      simp [List.lookup, this] at h
  have hcc : h₀.get? cc = some ⟨cl, cld, .cell (some (.ref D)), csl⟩ := hk _ _ (KX _ _ hcell)
  have nH : H cc = none := (e0.bs cc _ (e0.mod.kin _ _ hcell)).2
  refine ⟨⟨e0.mod, IO.kind, rfl, rfl, Nat.le_refl _, fun y z c h1 h2 => by rw [(lc y c h1).1, (lc z c h2).1], fun y hy => ?_, fun y c z _ => absurd z Bool.false_ne_true, fun _ => hd, Around.frames_deeper e0.frames, .inr ⟨rfl, rfl⟩, fun b z => absurd z (noA b), e0.bs, e0.bsz, fun b _ _ => noA b, fun b z => absurd z (noA b), e0.funs, e0.frf⟩,
    rfl, e0.bare, Un.kept hk, ⟨_, hns, fun i y v h1 h2 h3 => ?_⟩, fun y c h => ?_, e0.hok.fresh (Nat.le_refl _), fun y c h => ?_, fun p hp => absurd (show p ∈ ([] : List (Addr × Obj)) from hp) (by simp), e0.hok.kept hk, ?_⟩
  · have hy : scope.names.lookup y = some .cell ∨ scope.names.lookup y = some .free := hy
    rcases hy with hy | hy
    · exact absurd rfl (IO.nocell _ (PySem.mem_of_lookup hy))
    · rw [IO.free y hy]; exact ⟨cc, by show List.lookup _ [_] = _; simp [List.lookup]⟩
  · cases r with
    | nil => simp at hl
    | @cons v1 u1 _ _ r1 r =>
      cases r with
      | nil => simp at hl
      | @cons v2 u2 _ _ r2 r =>
        cases r with
        | @cons => simp at hl
        | nil =>
          match i, h1, h2 with
          | 0, h1, h2 =>
            cases h1; cases h2
            exact ⟨u1, r1, .inl ⟨IO.kself, by simp [List.lookup, show ((("self" : Str) == ("value" : Str)) = false) from by decide]⟩⟩
          | 1, h1, h2 =>
            cases h1; cases h2
            exact ⟨u2, r2, .inl ⟨IO.kvalue, by simp [List.lookup]⟩⟩
          | i + 2, h1, h2 => cases h1
  · rw [(lc y c h).2]; exact ⟨_, _, hcc, rfl⟩
  · rw [(lc y c h).2]; exact nH
  · rw [List.length_map]; exact hl
theorem call_mw {X : Cx} {pins : List (Addr × Obj)} {σ : L2.St} {H : Hp} {s : Shared} {A : Around} {E : Value → Shared → Prop} {a C u : Addr} {us : List Value} {Q : Value → Shared → Prop} (T : OexC X.K C) (I : Inv X pins σ H s) (e : H a = some (exo a C none)) (hu : s.heap.get? u = some (PySem.W.kxs_mw "ValueError.__init__" a)) (hl : us.length ≤ sizeLine) (h : ∀ s', Inv X pins σ H s' → Q .none s') :
    wpAny (model X.prog X.w) A (call (.ref u) us) Q E s := by
  obtain ⟨nm, q, N, bs, bm, sn, sub, ab, col, dd, k0, k1, k2, k3, k5, hC, hbm⟩ := T.cls
  obtain ⟨t1, ho⟩ := exo_at I.hok e
  obtain ⟨hp, g, d, t, os⟩ := s
  refine wpAny_call (codeAny_of_tree ?_)
  show wpAny _ A.in1 (callAny (.ref u) ⟨us, []⟩) _ _ _
  simp only [callAny]
  refine wpAny_bind (wpAny_load hu ?_)
  simp only [PySem.W.kxs_mw, show (Value.type "method-wrapper" == Value.type "method" || Value.type "method-wrapper" == Value.type "builtin_function_or_method" || Value.type "method-wrapper" == Value.type "method-wrapper") = true by decide, if_true]
  refine PySem.W.KFB.if_so (by decide) ?_
  refine wpAny_bind (PySem.W.check_bound_init F.excBase_ValueError.toExcCallFacts (I.kIn _ _ hC) ho rfl ?_)
  refine wpAny_bind (wpAny_pure (wpAny_pure ?_))
  refine ⟨plainId_quiet F.excBase_ValueError.init.plain _, codeAny_builtin F.excBase_ValueError.initEntry ?_⟩
  refine PySem.W.exc_init_tree (cls := .ref C) (t0 := t1) (dv := none) (c2 := .none) (c3 := .none) (b4 := .bool false) ho hl fun h' k e' _ => ?_
  have J := I.write (t' := t) (x := a) (e := a) (o := exo a C none) (by rw [e]; exact True.intro) (.inl rfl) k ⟨_, e'⟩ (exo_ok e')
  have eu : upd H a (exo a C none) = H := by
    funext b
    by_cases hb : b = a
    · rw [hb, upd_same, e]
    · rw [upd_ne hb]
  rw [eu] at J
  exact h _ J
end
end LY
set_option Elab.async false
set_option linter.all false
set_option maxRecDepth 100000
set_option maxHeartbeats 1000000
/-! LX2: the __init__ keeps its promise -/
namespace LY
open PySem PySem.Spec PyProof.Rows L2 PySem.Calls
section
variable {CX : CXT} {P : Program} {w : World} {K : PySem.W.Frag} {mg : Str → Option Value} {base : Heap} {k : Nat} {f D cc cda : Addr} {name qual : Str} {params : Arguments} {body : List Stmt} {scope : Scope} {dV kV doc pm ct oc ccl cl : Value} {an od cdd cld : Option Addr} {osl ccs csl : Array (Option Value)} {vs0 : Array Value} {file : Str} {tf : Tok}
theorem super_at (IO : InitOk P K mg D cc cda params scope) {A : Around} {outer : List Env} {s : Shared} {H : Hp} {E : XK} (lk : K.lookup f = some ⟨oc, od, .func (PySem.W.ksFn name qual params body scope dV kV doc pm an (.ref cda) ct cc), osl⟩)
    {a C : Addr} {y : V} {s1 : Shared} (I : Inv (cxI CX P w K mg base (["self", "value"] : List Str) qual scope f (.ref cda) cc A outer s H E) [] [some (.ref a), some y] H s1) (XC : XcC K D C) (ea : H a = some (exo a C none)) {p0 p1 : Pos} {whole : Sem Value} {Q : Value → Shared → Prop} {E' : Value → Shared → Prop}
    (h : ∀ so h', s1.heap.get? so = none → h'.get? so = some { cls := .type "super", dict := none, data := .fields #[.ref D, .ref a, .ref C], slots := #[] } → (∀ b o, s1.heap.get? b = some o → h'.get? b = some o) → Q (.ref so) { s1 with heap := h' }) :
    _root_.PySem.wpAt (model P w) (A.deeper (PySem.W.ksEnv qual scope s.heap.objs.size f (.ref cda) cc)) (.func body (PySem.W.ksEnv qual scope s.heap.objs.size f (.ref cda) cc)) (attributeBase (.Call (.Name "super" p0) [] [] p1) "__init__" (PySem.W.ksEnv qual scope s.heap.objs.size f (.ref cda) cc) whole) Q E' s1 := by
  obtain ⟨ar, hp, har⟩ := IO.par
  obtain ⟨ccl, cdd, vs0, file, tf, ccs, hcode, hvs, hfile⟩ := IO.code
  obtain ⟨cl, cld, csl, hcell⟩ := IO.cell
  have X := I.kIn
  obtain ⟨cdD, hD⟩ := Option.isSome_iff_exists.mp IO.isD
  obtain ⟨t1, ho⟩ := exo_at I.hok ea
  obtain ⟨m, hn, hl⟩ := I.loc
  obtain ⟨u, ru, hu⟩ := hl 0 "self" (.ref a) rfl rfl (.inl IO.kself)
  obtain rfl : u = Value.ref a := ru
  have hm : m "self" = some (.ref a) := by
    rcases hu with ⟨_, z⟩ | ⟨z, _⟩
    · exact z
    · rcases z with z | z
      · have := IO.kself; rw [show scope.names.lookup ("self" : Str) = some .cell from z] at this; cases this
      · have := IO.kself; rw [show scope.names.lookup ("self" : Str) = some .free from z] at this; cases this
  obtain ⟨mb, h1, h2⟩ := I.mod.blt
  have g1 := I.mod.glob.keeps I.bk
  have b1 := h1.keeps I.bk
  obtain ⟨hh, g, d, t, os⟩ := s1
  obtain ⟨oD, hD1, hD2⟩ : ∃ oD, hh.get? D = some oD ∧ oD.data = .cls cdD := by
    unfold PySem.W.clsIn at hD
    split at hD
    · rename_i c d cd' sl ho
      cases hD
      exact ⟨_, X _ _ ho, rfl⟩
    · cases hD
  refine PySem.ks_wpAt_super_base (env := PySem.W.ksEnv qual scope s.heap.objs.size f (.ref cda) cc) IO.ksuper IO.kcls rfl rfl (X _ _ lk) rfl hp rfl (X _ _ hcode) rfl hvs hfile IO.top ?_
  refine PySem.W.ks_loadName_global IO.kind IO.ksuper (Calls.loadGlobal_builtin (env := PySem.W.ksEnv qual scope s.heap.objs.size f (.ref cda) cc) g1 IO.sup b1 ((h2 "super" (by decide)).trans PyProof.Rows.Boot.«super») ⟨rfl, ?_⟩)
  refine wpAny_loadName_free IO.kind IO.kcls rfl ⟨_, X _ _ hcell, rfl⟩ ?_
  rw [har]
  refine wpAny_loadName_local IO.kind IO.kself hn hm ?_
  refine PySem.ks_wpAny_isType_cls hD1 hD2 ⟨rfl, ?_⟩
  refine PySem.ks_wpAny_call_super hD1 hD2 ho rfl (fun c e => by cases e) (PySem.W.looks_mroIn X XC.md) (fun h' e k => ?_)
  refine h _ _ ?_ e k
  cases z : hh.get? hh.objs.size with
  | none => rfl
  | some o => exact absurd (Heap.lt_size z) (Nat.lt_irrefl _)
theorem meth_at {X : Cx} {pins : List (Addr × Obj)} {σ : L2.St} {H : Hp} {s : Shared} {a C so : Addr} (I : Inv X pins σ H s) (op : PySem.W.nsIn X.K PySem.cStatics "thirdparty.any" = some none) (XC : XcC X.K D C) (ea : H a = some (exo a C none))
    (hso : s.heap.get? so = some { cls := .type "super", dict := none, data := .fields #[.ref D, .ref a, .ref C], slots := #[] }) {A : Around} {E : Value → Shared → Prop} {pl : Sem Bool} {Q : Value × List Value → Shared → Prop}
    (h : Q (.ref s.heap.objs.size, []) { s with heap := s.heap.push (PySem.W.kxs_mw "ValueError.__init__" a), toks := s.toks + 1 }) : wpAny (model X.prog X.w) A (getMethod (.ref so) "__init__" pl) Q E s := by
  obtain ⟨t1, ho⟩ := exo_at I.hok ea
  obtain ⟨cd, hc⟩ := Option.isSome_iff_exists.mp XC.cd
  have J : PySem.W.InstAt s.heap a _ C none := ⟨ho, rfl, rfl, trivial⟩
  have hm := XC.sup
  unfold PySem.W.ks_superIn at hm
  rw [hc] at hm
  have hI : PySem.W.Looks (model X.prog X.w) s.heap (isInstance (.ref a) (.type "ValueError")) true := J.type.andThen (PySem.W.looks_subIn I.kIn XC.ve)
  have KI := I.kIn
  obtain ⟨hh, g, d, t, os⟩ := s
  refine PySem.W.kxs_getMethod PySem.W.kxs_ValueError hso (PySem.W.looks_opaque KI op) (l₀ := cd.mro) ?_ rfl KI hm hI (PySem.W.ks_ne KI J hc) rfl ?_
  · exact fun A Q E s k q => wpAny_bind ((PySem.W.looks_clsIn KI hc) A _ E s k (wpAny_pure q))
  · exact h
theorem body_at (IO : InitOk P K mg D cc cda params scope) {A : Around} {outer : List Env} {s : Shared} {H : Hp} {E : XK} (lk : K.lookup f = some ⟨oc, od, .func (PySem.W.ksFn name qual params body scope dV kV doc pm an (.ref cda) ct cc), osl⟩)
    {p0 p1 p2 p3 p4 p5 p6 p7 p8 p9 : Pos} (hbody : body = [.Expr (.Call (.Attribute (.Call (.Name "super" p0) [] [] p1) "__init__" p2) [.Name "value" p3] [] p4) p5, .Assign [.Attribute (.Name "self" p6) "value" p7] (.Name "value" p8) p9])
    (heval : ∀ L : Addr, ∃ pl : Sem Bool, eval (.Call (.Attribute (.Call (.Name "super" p0) [] [] p1) "__init__" p2) [.Name "value" p3] [] p4) (PySem.W.ksEnv qual scope L f (.ref cda) cc) = (do
      let ov ← attributeBase (.Call (.Name "super" p0) [] [] p1) "__init__" (PySem.W.ksEnv qual scope L f (.ref cda) cc) (eval (.Call (.Name "super" p0) [] [] p1) (PySem.W.ksEnv qual scope L f (.ref cda) cc))
      standAt p2.atName
      let (f', first) ← holding [ov] (getMethod ov "__init__" pl)
      callWith p4 f' first (backTo p4 (starEach [.Name "value" p3] (PySem.W.ksEnv qual scope L f (.ref cda) cc))) []))
    {a C : Addr} {y : V} {s1 : Shared} (I : Inv (cxI CX P w K mg base (["self", "value"] : List Str) qual scope f (Value.ref cda) cc A outer s H E) [] [some (.ref a), some y] H s1) (XC : XcC K D C) (ea : H a = some (exo a C none)) :
    _root_.PySem.wpAt (model P w) (cxI CX P w K mg base (["self", "value"] : List Str) qual scope f (Value.ref cda) cc A outer s H E).A (.func body (cxI CX P w K mg base (["self", "value"] : List Str) qual scope f (Value.ref cda) cc A outer s H E).env) (execs body (cxI CX P w K mg base (["self", "value"] : List Str) qual scope f (Value.ref cda) cc A outer s H E).env) (fun fl s' => fl = .next ∧ ∃ σ' d, H d = none ∧ d ≠ a ∧ Inv (cxI CX P w K mg base (["self", "value"] : List Str) qual scope f (Value.ref cda) cc A outer s H E) [] σ' (upd (upd H d (exd d [("value", y)])) a (exo a C (some d))) s') (cxI CX P w K mg base (["self", "value"] : List Str) qual scope f (Value.ref cda) cc A outer s H E).xe s1 := by
  have lk' := lk
  subst hbody
  have hV : Vis (cxI CX P w K mg base (["self", "value"] : List Str) qual scope f (Value.ref cda) cc A outer s H E).env.scope "value" := .inl IO.kvalue
  have hS : Vis (cxI CX P w K mg base (["self", "value"] : List Str) qual scope f (Value.ref cda) cc A outer s H E).env.scope "self" := .inl IO.kself
  obtain ⟨pl, hev⟩ := heval s.heap.objs.size
  refine PySem.ks_wpAt_execs_cons (PySem.ks_wpAt_Expr_any (PySem.ks_wpAt_MethodCall (pl := pl) ?_ hev) I.quiet (by rfl))
  refine super_at (E := E) IO lk' I XC ea fun so h' nso eso k' => ?_
  have I1 : Inv (cxI CX P w K mg base (["self", "value"] : List Str) qual scope f (Value.ref cda) cc A outer s H E) [] [some (.ref a), some y] H { s1 with heap := h' } := I.kept (t' := s1.toks) k'
  refine meth_at I1 IO.op XC ea eso ?_
  have k2 : ∀ b o, h'.get? b = some o → (h'.push (PySem.W.kxs_mw "ValueError.__init__" a)).get? b = some o := fun b o e => Heap.get?_push_of_some _ e
  have I2 : Inv (cxI CX P w K mg base (["self", "value"] : List Str) qual scope f (Value.ref cda) cc A outer s H E) [] [some (.ref a), some y] H { s1 with heap := h'.push (PySem.W.kxs_mw "ValueError.__init__" a), toks := s1.toks + 1 } := I1.kept (t' := s1.toks + 1) k2
  have hmw : (h'.push (PySem.W.kxs_mw "ValueError.__init__" a)).get? h'.objs.size = some (PySem.W.kxs_mw "ValueError.__init__" a) := Heap.get?_push_at rfl rfl
  have I3 : Inv (cxI CX P w K mg base (["self", "value"] : List Str) qual scope f (Value.ref cda) cc A outer s H E) [(h'.objs.size, PySem.W.kxs_mw "ValueError.__init__" a)] [some (.ref a), some y] H { s1 with heap := h'.push (PySem.W.kxs_mw "ValueError.__init__" a), toks := s1.toks + 1 } := I2.pins_of fun p hp => by
    rw [List.mem_singleton.mp hp]
    refine ⟨hmw, I1.hok.fresh (Nat.le_refl _), ?_, I1.nofs (Nat.le_refl _), fun v z => by cases z⟩
    have := I1.lt
    intro z
    rw [← z] at this
    exact Nat.lt_irrefl _ this
  refine PySem.W.kxs_callWith (i := "ValueError.__init__") (x := a) (by rfl) ?_
  refine evalArgs_plain ?_
  refine thn ((pa_cons (pe_var (pos := p3) (i := 1) rfl hV) pa_nil).run p4 _ _ _ H (fun vs H1 => vs = [y] ∧ H1 = H) I3 ⟨y, rfl, rfl, rfl⟩) fun us s2 ⟨vs, H2, J, rv, hv, hH⟩ => ?_
  subst hv
  rw [hH] at J
  have hm2 := (J.pin _ (List.mem_append.mpr (.inr List.mem_cons_self))).1
  refine ⟨hm2, ?_⟩
  refine call_mw XC.o J ea hm2 (by cases rv with | cons _ rv => cases rv with | nil => rw [sizeLine_eq]; exact Nat.le_of_ble_eq_true rfl) fun s3 J3 => ?_
  have J4 : Inv (cxI CX P w K mg base (["self", "value"] : List Str) qual scope f (Value.ref cda) cc A outer s H E) [] [some (.ref a), some y] H s3 := J3.pins_of fun p hp => absurd hp List.not_mem_nil
  refine PySem.ks_wpAt_execs_cons (wpAt_of_wpAny ?_)
  refine thn ((ps_ost (pe_var (pos := p6) (i := 0) rfl hS) (pe_var (pos := p8) (i := 1) rfl hV)).run [] s3 _ H { nx := fun _ H' => ∃ d, H d = none ∧ d ≠ a ∧ H' = upd (upd H d (exd d [("value", y)])) a (exo a C (some d)), rt := fun _ _ => False } J4 ?_) fun fl s4 hs => ?_
  · exact ⟨y, rfl, .ref a, rfl, a, C, rfl, XC.o, XC.no, .inl ⟨ea, fun dx n1 n2 => ⟨dx, n1, n2, rfl⟩⟩⟩
  · cases fl with
    | next =>
      obtain ⟨σ', H', J5, d, n1, n2, e⟩ := hs
      subst e
      refine PySem.wpAt_of_wpAny ?_
      rw [execs_nil]
      exact wpAny_pure ⟨rfl, σ', d, n1, n2, J5⟩
    | ret u => obtain ⟨_, _, _, _, _, z⟩ := hs; exact z.elim
    | brk => obtain ⟨_, _, _, z⟩ := hs; exact z.elim
    | cont => obtain ⟨_, _, _, z⟩ := hs; exact z.elim
theorem init_fn (IO : InitOk P K mg D cc cda params scope) (lk : K.lookup f = some ⟨oc, od, .func (PySem.W.ksFn name qual params body scope dV kV doc pm an (.ref cda) ct cc), osl⟩) (hcd : PySem.W.codeIn K (.ref cda) qual = true)
    {p0 p1 p2 p3 p4 p5 p6 p7 p8 p9 : Pos} (hbody : body = [.Expr (.Call (.Attribute (.Call (.Name "super" p0) [] [] p1) "__init__" p2) [.Name "value" p3] [] p4) p5, .Assign [.Attribute (.Name "self" p6) "value" p7] (.Name "value" p8) p9]) 
    (heval : ∀ L : Addr, ∃ pl : Sem Bool, eval (.Call (.Attribute (.Call (.Name "super" p0) [] [] p1) "__init__" p2) [.Name "value" p3] [] p4) (PySem.W.ksEnv qual scope L f (.ref cda) cc) = (do
      let ov ← attributeBase (.Call (.Name "super" p0) [] [] p1) "__init__" (PySem.W.ksEnv qual scope L f (.ref cda) cc) (eval (.Call (.Name "super" p0) [] [] p1) (PySem.W.ksEnv qual scope L f (.ref cda) cc))
      standAt p2.atName
      let (f', first) ← holding [ov] (getMethod ov "__init__" pl)
      callWith p4 f' first (backTo p4 (starEach [.Name "value" p3] (PySem.W.ksEnv qual scope L f (.ref cda) cc))) [])) :
    FnOk P w K mg base CX (k + 1) f (PySem.W.ksFn name qual params body scope dV kV doc pm an (.ref cda) ct cc) (["self", "value"] : List Str) (spI K D) := by
  refine ⟨fun vs H Q E ⟨a, C, y, e, _⟩ => by rw [e]; rfl, fun A outer s H args us vs Q E hr e0 hb r hsp => ?_⟩
  obtain ⟨a, C, y, rfl, XC, ea, q⟩ := hsp
  have KX : K.In s.heap := e0.mod.kin.keeps fun b o e => (e0.bs b o e).1
  have lim : s.heap.NoLimit := e0.mod.nolimit.keeps fun b o e => (e0.bs b o e).1
  refine PySem.ks_codeAny_call_defAt (fd := PySem.W.ksFn name qual params body scope dV kV doc pm an (.ref cda) ct cc) (body := body) (binds := (["self", "value"] : List Str).zip us) hr.depth (KX _ _ lk) rfl lim (PySem.W.codeRec_of KX hcd) rfl hb IO.nocell
    (fun x hx => ?_) (fun h₁ hns hk₁ => ?_) IO.co IO.gen IO.kind
  · have := (List.of_mem_zip (a := x.1) (b := x.2) hx).1
    rcases List.mem_cons.mp this with e | this
    · rw [e]; exact IO.kself
    · rw [List.mem_singleton.mp this]; exact IO.kvalue
  have I := inv_startI (CX := CX) (w := w) (qual := qual) (f := f) (E := E) (tk := s.toks + ((["self", "value"] : List Str).zip us).length) IO hr.hd e0 r rfl hns hk₁
  refine PySem.ks_wpAt_mono (body_at (CX := CX) (E := E) IO lk hbody heval I XC ea) (fun fl s' hs => ?_) fun _ _ z => z
  obtain ⟨rfl, σ', d, n1, n2, J⟩ := hs
  exact ⟨.non, _, J.os, J.bare, J.base, J.hok, rfl, q d n1 n2⟩
end
end LY
set_option Elab.async false
set_option linter.all false
set_option maxRecDepth 100000
set_option maxHeartbeats 1000000
/-! LX3: own exceptions as data: made, asked for their value, their class -/
namespace LY
open PySem PySem.Spec PyProof.Rows L2 PySem.Calls
structure XcR (K : PySem.W.Frag) (D C : Addr) : Prop where
  c : XcC K D C
  x : XfC K C
  ha : PySem.W.findIn K (.ref C) "__class__" = some (some (.builtin "object.__class__"))
  hm : PySem.W.mroIn K C (.type "object") = some true
  mro : ∃ cd, PySem.W.clsIn K C = some cd ∧ cd.mro = mroX D C
  ty : PySem.W.typeIn K (.ref C) = some (.type "type")
/-- of the written part alone -/
structure XcK (K : PySem.W.Frag) : Prop where
  hn : PySem.W.specialIn K (.builtin "object.__class__") "__get__" = some (some (.builtin "getset_descriptor.__get__"))
  ht : PySem.W.takesIn K (.builtin "object.__class__") = some true
theorem mroX_ne {D C : Addr} : (mroX D C).isEmpty = false := by
  unfold mroX; split <;> rfl
theorem kit_own {K : PySem.W.Frag} {D C T : Addr} (hC : XcR K D C) (hT : XcR K D T) : PySem.W.kitOne K (.ref C) (.ref T) = some (decide (T = C ∨ T = D)) := by
  obtain ⟨cd, e1, e2⟩ := hC.mro
  have hs : PySem.W.kitCls K (.ref C) (.ref T) = some ((mroX D C).contains (.ref T)) := by
    unfold PySem.W.kitCls
    simp only [hT.c.cd, hT.ty, beq_self_eq_true, Bool.and_self, if_true]
    show PySem.W.mroIn K C (.ref T) = _
    unfold PySem.W.mroIn
    rw [e1, Option.bind_some, e2, if_neg (by rw [mroX_ne]; exact Bool.false_ne_true)]
  unfold PySem.W.kitOne
  by_cases h : C = T
  · subst h
    rw [if_pos (by simp), decide_eq_true (.inl rfl)]
  · rw [if_neg (by simpa using h), hs]
    congr 1
    unfold mroX
    split
    · rename_i q
      subst q
      simp [List.contains_cons, veTail, h, Ne.symm h]
    · rename_i q
      simp [List.contains_cons, veTail, h, Ne.symm h]
theorem kit_ve {K : PySem.W.Frag} {D C : Addr} (hC : XcR K D C) : PySem.W.kitOne K (.ref C) (.type "ValueError") = some true := by
  unfold PySem.W.kitOne
  rw [if_neg (by simp)]
  unfold PySem.W.kitCls
  simp only
  rw [if_pos (by decide +kernel)]
  exact hC.c.ve
/-! ### isinstance -/
def rIsX (K : PySem.W.Frag) : List V → Hp → VK → Prop := fun xs H Q => ∃ (a C D dx : Addr) (fs : List (Str × V)) (c : V) (u : Value) (b : Bool), xs = [.ref a, c] ∧ ClsV c u ∧ H a = some (exo a C (some dx)) ∧ H dx = some (exd dx fs) ∧ XcR K D C ∧ XcK K ∧ PySem.W.kitOne K (.ref C) u = some b ∧ Q (.bl b) H
theorem inst_exo {X : Cx} {pins : List (Addr × Obj)} {σ : L2.St} {H : Hp} {s : Shared} {a C dx : Addr} {fs : List (Str × V)} (I : Inv X pins σ H s) (ea : H a = some (exo a C (some dx))) (ed : H dx = some (exd dx fs)) :
    ∃ (ox od : Obj) (mA : Str → Option Value), PySem.W.InstAt s.heap a ox C (some od) ∧ (∀ n, PySem.W.lookIn n od = some (mA n)) ∧ ∀ f, RelO (fs.lookup f) (mA f) := by
  obtain ⟨t1, ho⟩ := exo_at I.hok ea
  obtain ⟨mA, hns, rel⟩ := exd_at I.hok ed
  obtain ⟨od, hd, hl⟩ := lookIn_ns hns
  exact ⟨_, od, mA, ⟨ho, rfl, rfl, hd⟩, hl, rel⟩
theorem call_isX {X : Cx} : CallR X (.builtin "isinstance") (rIsX X.K) := by
  intro pins s σ H xs us Q I r h
  obtain ⟨a, C, D, dx, fs, c, u, b, rfl, k, ea, ed, hC, hK, e, q⟩ := h
  obtain ⟨u1, u2, rfl, r1, r2⟩ := vals2 r
  have e2 := k.eq r2
  subst e2
  obtain rfl : u1 = Value.ref a := r1
  obtain ⟨ox, od, mA, J, _, _⟩ := inst_exo I ea ed
  exact PySem.W.kia_one (PySem.W.kitx_exc hC.c.cd hC.x.ga hC.x.gg hC.x.exC hC.ha hK.hn hK.ht hC.hm) I.kIn J e (fun z => nomatch z) fun tk => ⟨.bl b, H, I.tok tk, rfl, q⟩
theorem Vw.exc {A : List Addr} {H : Hp} {v : V} {C : Addr} {fs : List (Str × D)} (h : Vw A H (.exc C fs) v) : ∃ a dx vs, v = .ref a ∧ a ∉ A ∧ dx ∉ A ∧ H a = some (exo a C (some dx)) ∧ H dx = some (exd dx vs) ∧ RpF A H fs vs := by
  rcases h with ⟨a, dx, vs, h⟩ | ⟨a, rfl, q⟩
  · exact ⟨a, dx, vs, h⟩
  · exact q.elim
/-- isinstance(x, T), T the own exception class at T; all: the own exception classes -/
def fIsX (D0 : Addr) (all : List Addr) (T : Addr) (d : D) : Option D := match d with
  | .exc C _ => if all.contains C = true then some (.bl (decide (T = C ∨ T = D0))) else none
  | _ => none
def fIsVE (all : List Addr) (d : D) : Option D := match d with
  | .exc C _ => if all.contains C = true then some (.bl true) else none
  | _ => none
def fVal (all : List Addr) (d : D) : Option D := match d with
  | .exc C fs => if all.contains C = true then fs.lookup ("value" : Str) else none
  | _ => none
section
variable {X : Cx}
theorem q_isX {D0 T : Addr} {all : List Addr} {x : Str} {p p2 pos : Pos} {e : Expr} {g : Den} (hall : ∀ C ∈ all, XcR X.K D0 C) (hT : T ∈ all) (hK : XcK X.K) (hg : Gl X "isinstance") (hm : X.mg "isinstance" = none) (hgT : Gl X x) (hmT : X.mg x = some (.ref T)) (ha : QV X e g)
    (hdb : (x == ("__debug__" : Str)) = false := by decide) (he : starEach [e, .Name x p2] X.env = (false, eval e X.env) :: starEach [.Name x p2] X.env := by rfl)
    (he' : starEach [.Name x p2] X.env = (false, eval (.Name x p2) X.env) :: starEach [] X.env := by rfl)
    (hpl : (backTo pos (starEach [.Name x p2] X.env)).any (·.1) = false := by rfl) : QE X (.Call (.Name "isinstance" p) [e, .Name x p2] [] pos) (d1 (fIsX D0 all T) g) :=
  (pe_callB call_isX hg hm (by decide +kernel) (pa_cons ha (pa_cons (pe_glob (v := .ref T) hgT hmT rfl hdb) pa_nil he') he) (by decide) (by decide) he hpl).imp fun σ H Q ⟨H0, B, A, ρ, d, S, q, k⟩ => by
    obtain ⟨x, e1, e2⟩ := bind1 q
    refine ⟨H0, B, A, ρ, x, S, e1, fun v H1 s1 r1 => ?_⟩
    unfold fIsX at e2
    split at e2
    · rename_i C fs
      split at e2
      · rename_i hC
        cases e2
        obtain ⟨a, dx, vs, rfl, _, _, ea, ed, _⟩ := r1.exc
        exact ⟨a, C, D0, dx, vs, .ref T, .ref T, _, rfl, .own T, ea, ed, hall C (by simpa using hC), hK, kit_own (hall C (by simpa using hC)) (hall T hT), k _ H1 s1 rfl⟩
      · cases e2
    · cases e2
theorem q_isVE {D0 : Addr} {all : List Addr} {p p2 pos : Pos} {e : Expr} {g : Den} (hall : ∀ C ∈ all, XcR X.K D0 C) (hK : XcK X.K) (hg : Gl X "isinstance") (hm : X.mg "isinstance" = none) (hgT : Gl X "ValueError") (hmT : X.mg "ValueError" = none) (ha : QV X e g)
    (he : starEach [e, .Name "ValueError" p2] X.env = (false, eval e X.env) :: starEach [.Name "ValueError" p2] X.env := by rfl)
    (he' : starEach [.Name "ValueError" p2] X.env = (false, eval (.Name "ValueError" p2) X.env) :: starEach [] X.env := by rfl)
    (hpl : (backTo pos (starEach [.Name "ValueError" p2] X.env)).any (·.1) = false := by rfl) : QE X (.Call (.Name "isinstance" p) [e, .Name "ValueError" p2] [] pos) (d1 (fIsVE all) g) :=
  (pe_callB call_isX hg hm (by decide +kernel) (pa_cons ha (pa_cons (pe_bltn (v := .ty "ValueError") hgT hmT PyProof.Rows.Boot.«ValueError» rfl) pa_nil he') he) (by decide) (by decide) he hpl).imp fun σ H Q ⟨H0, B, A, ρ, d, S, q, k⟩ => by
    obtain ⟨x, e1, e2⟩ := bind1 q
    refine ⟨H0, B, A, ρ, x, S, e1, fun v H1 s1 r1 => ?_⟩
    unfold fIsVE at e2
    split at e2
    · rename_i C fs
      split at e2
      · rename_i hC
        cases e2
        obtain ⟨a, dx, vs, rfl, _, _, ea, ed, _⟩ := r1.exc
        exact ⟨a, C, D0, dx, vs, .ty "ValueError", .type "ValueError", _, rfl, .ty _, ea, ed, hall C (by simpa using hC), hK, kit_ve (hall C (by simpa using hC)), k _ H1 s1 rfl⟩
      · cases e2
    · cases e2
/-! ### e.value -/
def tXv (K : PySem.W.Frag) (te : TE) : TE := fun σ H Q => te σ H fun x H1 => ∃ (a C D dx : Addr) (fs : List (Str × V)) (v : V), x = .ref a ∧ XcR K D C ∧ H1 a = some (exo a C (some dx)) ∧ H1 dx = some (exd dx fs) ∧ fs.lookup ("value" : Str) = some v ∧ Q v H1
theorem pe_xv {e : Expr} {te : TE} {pos : Pos} (he : PE X e te) (hb : attributeBase e "value" X.env (eval e X.env) = eval e X.env := by rfl) : PE X (.Attribute e "value" pos) (tXv X.K te) := by
  refine ⟨fun pins s σ H Q I h => ?_⟩
  refine attr_of hb (thn (he.run pins s σ H _ I h) fun u s1 hh => ?_)
  obtain ⟨x, H1, I1, rx, a, C, D0, dx, fs, v, rfl, hC, ea, ed, l, q⟩ := hh
  obtain rfl : u = Value.ref a := rx
  obtain ⟨ox, od, mA, J, hl, hr⟩ := inst_exo I1 ea ed
  obtain ⟨u, hu, ru⟩ := RelO.some_of (v := v) (o := mA "value") (by rw [← l]; exact hr "value")
  exact HandSPX.exc_get I1.kIn J hC.x.ga hC.x.gg hC.x.exC (PySem.W.findObj_own hC.x.hdC hC.c.no rfl (by rw [hl, hu])) (handed_of ru) ⟨v, H1, I1.tok _, ru, q⟩
theorem q_xv {D0 : Addr} {all : List Addr} {e : Expr} {g : Den} {pos : Pos} (hall : ∀ C ∈ all, XcR X.K D0 C) (he : QV X e g) (hb : attributeBase e "value" X.env (eval e X.env) = eval e X.env := by rfl) : QE X (.Attribute e "value" pos) (d1 (fVal all) g) :=
  (pe_xv he hb).imp fun σ H Q ⟨H0, B, A, ρ, d, S, q, k⟩ => by
    obtain ⟨x, e1, e2⟩ := bind1 q
    refine ⟨H0, B, A, ρ, x, S, e1, fun v H1 s1 r1 => ?_⟩
    unfold fVal at e2
    split at e2
    · rename_i C fs
      split at e2
      · rename_i hC
        obtain ⟨a, dx, vs, rfl, _, _, ea, ed, rf⟩ := r1.exc
        obtain ⟨u, l, ru⟩ := rf.lookup e2
        exact ⟨a, C, D0, dx, vs, u, rfl, hall C (by simpa using hC), ea, ed, l, k u H1 s1 ru⟩
      · cases e2
    · cases e2
/-! ### C(e) -/
def tMkX (K : PySem.W.Frag) (D0 C : Addr) (ta : TA) : TE := fun σ H Q => ta σ H fun vs H1 => ∃ y, vs = [y] ∧ ∀ a d, H1 a = none → H1 d = none → d ≠ a → Q (.ref a) (upd (upd H1 d (exd d [("value", y)])) a (exo a C (some d)))
theorem upd_swap {H : Hp} {a d : Addr} {o o' e : HO} (h : d ≠ a) : upd (upd (upd H a o) d e) a o' = upd (upd H d e) a o' := by
  funext b
  by_cases hb : b = a
  · rw [hb, upd_same, upd_same]
  · rw [upd_ne hb, upd_ne hb]
    by_cases hd : b = d
    · rw [hd, upd_same, upd_same]
    · rw [upd_ne hd, upd_ne hd, upd_ne hb]
theorem pe_mkX {D0 C fI : Addr} {x : Str} {k : Nat} {fd : FuncData} {p pos : Pos} {e : Expr} {ta : TA} (hC : XcR X.K D0 C) (iC : PySem.W.findIn X.K (.ref C) "__init__" = some (some (.ref fI))) (tI : PySem.W.typeIn X.K (.ref fI) = some (.type "function"))
    (F1 : FnOk X.prog X.w X.K X.mg X.base L2.CX0 k fI fd (["self", "value"] : List Str) (spI X.K D0)) (hr : Room (k + 1) X.A) (hb : Binds X.K fd (["self", "value"] : List Str) []) (hg : Gl X x) (hm : X.mg x = some (.ref C)) (ha : PA X [e] ta)
    (hdb : (x == ("__debug__" : Str)) = false := by decide) (he : starEach [e] X.env = (false, eval e X.env) :: starEach [] X.env := by rfl) :
    PE X (.Call (.Name x p) [e] [] pos) (tMkX X.K D0 C ta) := by
  refine ⟨fun pins s σ H Q I h => ?_⟩
  obtain ⟨nm, q, N, bs, bm, sn, sub, ab, col, dd, k0, k1, k2, k3, k5, hCo, hbm⟩ := hC.c.o.cls
  refine wpAny_Call_Name_kw (ld_glob I hg hm ?_ hdb)
  refine PySem.W.callWith_K (h₀ := X.base) I.ok.mod.kin hC.c.o.kC (thn (ha.run pos pins s σ H _ I h) fun us s1 ⟨vs, H1, I1, r1, y, hv, q1⟩ => ⟨I1.kIn, ?_⟩) he (by rfl)
  subst hv
  show wpAny _ _ (call (.ref C) us) _ _ _
  obtain ⟨hp, g, dr, tk, os⟩ := s1
  have hsz : hp.objs.size ≤ hp.objs.size + 1 := Nat.le_succ _
  have hn : H1 (hp.objs.size + 1) = none := I1.hok.fresh hsz
  have kk : ∀ b o, hp.get? b = some o → ((hp.push (PySem.W.kdv_tup us)).push (PySem.HandSPX.excO C hp.objs.size)).get? b = some o := fun b o e => Heap.get?_push_of_some _ (Heap.get?_push_of_some _ e)
  have hget : ((hp.push (PySem.W.kdv_tup us)).push (PySem.HandSPX.excO C hp.objs.size)).get? (hp.objs.size + 1) = some (PySem.HandSPX.excO C hp.objs.size) := by heap_get
  have I2 : Inv X pins σ (upd H1 (hp.objs.size + 1) (exo (hp.objs.size + 1) C none)) ⟨(hp.push (PySem.W.kdv_tup us)).push (PySem.HandSPX.excO C hp.objs.size), g, dr, tk, os⟩ :=
    I1.laid (t' := tk) (a := hp.objs.size + 1) (o := exo (hp.objs.size + 1) C none) (h' := (hp.push (PySem.W.kdv_tup us)).push (PySem.HandSPX.excO C hp.objs.size)) kk hsz (exo_ok hget)
  have r2 : Vals (V.ref (hp.objs.size + 1) :: ([y] ++ [])) (Value.ref (hp.objs.size + 1) :: (us ++ [])) := .cons rfl (r1.append .nil)
  have hl : (Value.ref (hp.objs.size + 1) :: us ++ []).length = (["self", "value"] : List Str).length := r2.length.symm
  have hbb : BindsTo ⟨(hp.push (PySem.W.kdv_tup us)).push (PySem.HandSPX.excO C hp.objs.size), g, dr, tk, os⟩ fd ⟨Value.ref (hp.objs.size + 1) :: us, []⟩ ((["self", "value"] : List Str).zip (Value.ref (hp.objs.size + 1) :: (us ++ []))) := by
    have z := hb _ (Value.ref (hp.objs.size + 1) :: us) I2.kIn hl
    rw [List.append_nil] at z ⊢
    exact z
  have hus : us.length ≤ sizeLine := by
    rw [← Paired.length r1, sizeLine_eq]
    exact Nat.le_of_ble_eq_true rfl
  have hq : spI X.K D0 (V.ref (hp.objs.size + 1) :: ([y] ++ [])) (upd H1 (hp.objs.size + 1) (exo (hp.objs.size + 1) C none)) (fun v H' => v = .non ∧ Q (.ref (hp.objs.size + 1)) H') (fun _ _ _ => False) :=
    ⟨hp.objs.size + 1, C, y, rfl, hC.c, upd_same, fun d n1 n2 => by
      rw [upd_swap n2]
      rw [upd_ne n2] at n1
      exact ⟨rfl, q1 _ d hn n1 n2⟩⟩
  refine wpAny_call (PySem.HandSPX.call_own F.excBase_ValueError (fun Y => PySem.HandSPX.refsVE_contains Y bm hbm) (I1.kIn _ _ hCo) (PySem.W.looks_findIn I1.kIn iC) (fun self => PySem.W.bind_fn I1.kIn self tI) hus
    (codeAny_mono (F1.run _ X.stack _ _ ⟨Value.ref (hp.objs.size + 1) :: us, []⟩ (Value.ref (hp.objs.size + 1) :: (us ++ [])) _ _ (fun _ _ _ => False) (hr.make C us []) (I2.env0.make C us []) hbb r2 hq) fun r s' hq' => ?_))
  cases r with
  | error er => exact pass0 pins σ _ _ er s' I2 hq'
  | ok fl =>
    cases fl with
    | ret u =>
      obtain ⟨v, H2, I3, rv, ev, q2⟩ := I2.after hq'
      subst ev
      exact ⟨rv, .ref _, H2, I3, rfl, q2⟩
    | next => exact False.elim hq'
    | brk => exact False.elim hq'
    | cont => exact False.elim hq'
def fMkX (C : Addr) (d : D) : Option D := some (.exc C [("value", d)])
theorem q_mkX {D0 C fI : Addr} {x : Str} {k : Nat} {fd : FuncData} {p pos : Pos} {e : Expr} {g : Den} (hC : XcR X.K D0 C) (iC : PySem.W.findIn X.K (.ref C) "__init__" = some (some (.ref fI))) (tI : PySem.W.typeIn X.K (.ref fI) = some (.type "function"))
    (F1 : FnOk X.prog X.w X.K X.mg X.base L2.CX0 k fI fd (["self", "value"] : List Str) (spI X.K D0)) (hr : Room (k + 1) X.A) (hb : Binds X.K fd (["self", "value"] : List Str) []) (hg : Gl X x) (hm : X.mg x = some (.ref C)) (ha : QE X e g)
    (hdb : (x == ("__debug__" : Str)) = false := by decide) (he : starEach [e] X.env = (false, eval e X.env) :: starEach [] X.env := by rfl) :
    QE X (.Call (.Name x p) [e] [] pos) (d1 (fMkX C) g) :=
  (pe_mkX hC iC tI F1 hr hb hg hm (ql_cons ha ql_nil he) hdb he).imp fun σ H Q ⟨H0, B, A, ρ, d, S, q, k⟩ => by
    obtain ⟨x, e1, e2⟩ := bind1 q
    cases e2
    refine ⟨H0, B, A, ρ, [x], S, by simp [dCons, dNil, e1], fun vs H1 s1 r1 => ?_⟩
    obtain ⟨v, rr, rfl, r2, r3⟩ := r1
    refine ⟨v, by rw [show rr = [] from r3], fun a dd na nd ne => ?_⟩
    have m := S.muts.ext s1
    have na' : upd H1 dd (exd dd [("value", v)]) a = none := by rw [upd_ne (Ne.symm ne)]; exact na
    have s2 : Sm H1 (upd (upd H1 dd (exd dd [("value", v)])) a (exo a C (some dd))) := (Sm.new nd).trans (Sm.new na')
    exact k (.ref a) _ (s1.trans s2) ⟨a, dd, [("value", v)], rfl, m.new na, m.new nd, upd_same, by rw [upd_ne ne, upd_same], v, [], rfl, r2.ext s2.x, rfl⟩
end
end LY
set_option Elab.async false
set_option linter.all false
set_option maxRecDepth 100000
set_option maxHeartbeats 1000000
/-! LX4: lambdas with parameters and no captured names: made, called -/
namespace LY
open PySem PySem.Spec PyProof.Rows L2 PySem.Calls LamX NdefX
section
variable {X : Cx} {pins : List (Addr × Obj)} {σ : L2.St} {H : Hp} {s : Shared}
theorem inv_lam {L : LF} {c : Addr} {o : Obj} {t' : Nat} {pm ctv : Value} (I : Inv X pins σ H s) (ho : o = { cls := .type "function", data := .func (PySem.W.kla_fn "<lambda>" L.qual L.params L.body L.scope [] pm (.ref c) ctv) }) :
    Inv X pins σ (upd H s.heap.objs.size (LamO s.heap.objs.size L c)) { s with heap := s.heap.push o, toks := t' } := by
  subst ho
  refine I.laid (a := s.heap.objs.size) (fun b u e => Heap.get?_push_of_some _ e) (Nat.le_refl _) ?_
  have e : (s.heap.push ({ cls := .type "function", data := .func (PySem.W.kla_fn "<lambda>" L.qual L.params L.body L.scope [] pm (.ref c) ctv) } : Obj)).get? s.heap.objs.size = some ({ cls := .type "function", data := .func (PySem.W.kla_fn "<lambda>" L.qual L.params L.body L.scope [] pm (.ref c) ctv) } : Obj) := Heap.get?_push_size _ rfl
  exact ⟨⟨_, _, pm, ctv, e⟩, ⟨_, e⟩, fun h1 h2 ⟨od, sl, p, t, z⟩ st => ⟨od, sl, p, t, st _ z⟩⟩
theorem lamO_at {P : Program} {w : World} {H : Hp} {h : Heap} {f c : Addr} {L : LF} (hok : HOk P w H h) (e : H f = some (LamO f L c)) : ∃ (od : Option Addr) (sl : Array (Option Value)) (pm ctv : Value), h.get? f = some (⟨.type "function", od, .func (PySem.W.kla_fn "<lambda>" L.qual L.params L.body L.scope [] pm (.ref c) ctv), sl⟩ : Obj) := by
  obtain ⟨z, _, _⟩ := hok f _ e
  exact z
/-- lambda ..: body, made; T: the tables of code objects -/
def tLm (T : List (Addr × Str)) (L : LF) : TE := fun σ H Q => Tabs T H ∧ ∀ (f c' : Addr) (H1 : Hp), ExtN H H1 → (∀ b, H1 b = Option.none → H b = Option.none) → Tabs T H1 → H f = none → H1 f = some (LamO f L c') → H1 c' = some (CodeO c' L.qual) → Q (.ref f) H1
theorem pe_lam {T : List (Addr × Str)} {c P : Addr} {params : Arguments} {body : Expr} {scope : Scope} {pos : Pos} (TB : TabB X.base X.mg c P) (hcode : X.env.code = .ref c) (hm : (P, X.env.qual ++ "<lambda>") ∈ T) (hu : ∀ p ∈ T, p.1 = P → p.2 = X.env.qual ++ "<lambda>")
    (hdef : defaultsOf params X.env = ([], [])) (hfree : ∀ y ∈ scope.names, y.2 ≠ .free) (hcl : cloFrom X.env.cells scope.names [] = []) : PE X (.Lambda params body scope pos) (tLm T ⟨X.env.qual ++ "<lambda>", params, body, scope⟩) := by
  refine ⟨fun pins s σ H Q I ⟨hT, h⟩ => ?_⟩
  have hf : ∀ y ∈ scope.names, y.2 = .free → ∃ c, X.env.cells.lookup y.1 = some c := fun y hy e => absurd e (hfree y hy)
  have hco : closureFor scope X.env = pure [] := by rw [closure_ok hf, hcl]
  obtain ⟨ps, hP, ht, ha⟩ := hT _ hm
  refine PySem.W.kla_eval hdef ?_
  have bP : s.heap.BuiltinsAt X.mg P := TB.bm.keeps I.bk
  have hP' : s.heap.get? P = some { cls := .none, data := .fields ps } := I.hok P _ hP
  cases hc : codeAmong pos ps.toList with
  | none =>
    refine PySem.W.kla_makeFunction (mg := X.mg) (c := c) (P := P) (ps := ps) hco I.ok.glob (I.mod.glob.keeps I.bk) hcode (TB.code.keeps I.bk) hP' ht hc TB.gP bP fun c' ctv h' tk hx hge hlt hrec htb => ?_
    obtain ⟨c2, oc, vs, t, e2, hoc, hd, hv⟩ := hrec
    cases e2
    have nC : H c' = none := I.hok.fresh hge
    have I1 := inv_table (t' := tk) (more := #[rawInt pos.line, rawInt pos.col, .ref c']) (h' := h') I hP (fun b o hb e => hx b o hb e) htb hge ⟨oc, vs, t, hoc, hd, hv⟩
    have hE : ExtN H (upd (upd H P (.tbl (ps ++ #[rawInt pos.line, rawInt pos.col, .ref c']))) c' (CodeO c' (X.env.qual ++ "<lambda>"))) := fun b o e n => by
      rw [upd_ne (ne_of_none e nC), upd_ne (fun z => n ps (Option.some.inj (e.symm.trans (by rw [z]; exact hP))))]
      exact e
    have eL : (ps ++ #[rawInt pos.line, rawInt pos.col, .ref c']).toList = ps.toList ++ [rawInt pos.line, rawInt pos.col, .ref c'] := by simp
    have T1 : Tabs T (upd (upd H P (.tbl (ps ++ #[rawInt pos.line, rawInt pos.col, .ref c']))) c' (CodeO c' (X.env.qual ++ "<lambda>"))) := fun p hp => by
      by_cases hb : p.1 = P
      · rw [hu p hp hb, hb]
        refine ⟨_, by rw [upd_ne (ne_of_none hP nC), upd_same], by rw [eL]; exact PySem.TriplesOk_snoc _ _ _ _ ht, fun p' cv hcv => ?_⟩
        rw [eL] at hcv
        rcases among_app _ ht hcv with z | z
        · obtain ⟨c0, e1, e2⟩ := ha p' cv z
          exact ⟨c0, e1, hE _ _ e2 codeO_ne⟩
        · exact ⟨c', z, upd_same⟩
      · obtain ⟨ps', a1, a2, a3⟩ := hT p hp
        refine ⟨ps', by rw [upd_ne (ne_of_none a1 nC), upd_ne hb]; exact a1, a2, fun p' cv hcv => ?_⟩
        obtain ⟨c0, e1, e2⟩ := a3 p' cv hcv
        exact ⟨c0, e1, hE _ _ e2 codeO_ne⟩
    have nF := I1.hok.fresh (Nat.le_refl _)
    have I2 := inv_lam (L := ⟨X.env.qual ++ "<lambda>", params, body, scope⟩) (c := c') (t' := tk) (pm := (X.mg "__name__").getD .none) (ctv := ctv) I1 rfl
    refine ⟨.ref h'.objs.size, _, I2, rfl, h h'.objs.size c' _ (fun b o e n => ?_) (fun b e => upd_none (upd_none (upd_none e))) (T1.ext fun b o e => ?_) (I.hok.fresh (Nat.le_trans hge (Nat.le_of_lt hlt))) upd_same ?_⟩
    · have e1 := hE b o e n
      exact (upd_ne (ne_of_none e1 nF)).trans e1
    · exact (upd_ne (ne_of_none e nF)).trans e
    · exact (upd_ne (Nat.ne_of_lt hlt)).trans upd_same
  | some cv =>
    obtain ⟨c', e, hcoo⟩ := ha pos cv hc
    subst e
    refine PySem.W.kla_makeFunctionHit (mg := X.mg) (c := c) (P := P) (ps := ps) hco I.ok.glob (I.mod.glob.keeps I.bk) hcode (TB.code.keeps I.bk) hP' ht hc bP fun ctv h' tk hx hsz => ?_
    have I1 : Inv X pins σ H { s with heap := h', toks := tk } := I.kept hx
    have nF : H h'.objs.size = none := I1.hok.fresh (Nat.le_refl _)
    have I2 := inv_lam (L := ⟨X.env.qual ++ "<lambda>", params, body, scope⟩) (c := c') (t' := tk) (pm := (X.mg "__name__").getD .none) (ctv := ctv) I1 rfl
    refine ⟨.ref h'.objs.size, _, I2, rfl, h h'.objs.size c' _ (fun b o e n => ?_) (fun b e => upd_none e) (hT.ext fun b o e => ?_) nF upd_same ?_⟩
    · exact (upd_ne (ne_of_none e nF)).trans e
    · exact (upd_ne (ne_of_none e nF)).trans e
    · exact (upd_ne (ne_of_none hcoo nF)).trans hcoo
end
/-! ### called -/
def nfOf (L : LF) (c : Addr) : NF := ⟨"<lambda>", L.qual, L.params, [], L.scope, [], c⟩
structure LamOk (P : Program) (w : World) (K : PySem.W.Frag) (mg : Str → Option Value) (base : Heap) (CX : CXT) (k : Nat) (L : LF) (ps : List Str) (sp : Sp) : Prop where
  len : ∀ vs H Q E, sp vs H Q E → vs.length = ps.length
  run : ∀ (f c : Addr) (A : Around) (outer : List Env) (s : Shared) (H : Hp) (us : List Value) (vs : List V) (Q : VK) (E : XK), Room k A → Env0 P w K mg base A outer s H → H f = some (LamO f L c) → H c = some (CodeO c L.qual) →
    Vals vs us → sp vs H Q E → codeAny (model P w) A (.call (.ref f) ⟨us, []⟩) (CR CX outer P w H s Q E) s
section
variable {CX : CXT} {P : Program} {w : World} {K : PySem.W.Frag} {mg : Str → Option Value} {base : Heap} {N ps : List Str} {L : LF} {k : Nat} {sp : Sp}
theorem lamok_of (S : NScope N ps [] L.scope) (hb : ∀ (pm cv ctv : Value) (us : List Value), us.length = ps.length → bindArgs (PySem.W.kla_fn "<lambda>" L.qual L.params L.body L.scope [] pm cv ctv) ⟨us, []⟩ = pure (ps.zip us)) (len : ∀ vs H Q E, sp vs H Q E → vs.length = ps.length)
    (hbody : ∀ (f c : Addr) (A : Around) (outer : List Env) (s : Shared) (H : Hp) (vs : List V) (Q : VK) (E : XK), Room k (A.deeper (envF (nfOf L c) f s.heap.objs.size)) → sp vs H Q E →
      ∃ t, PE (ncx CX P w K mg base N (nfOf L c) f A outer s H E) L.body t ∧ t (startF N vs []) H Q) :
    LamOk P w K mg base CX (k + 1) L ps sp := by
  refine ⟨len, fun f c A outer s H us vs Q E hr e0 hf hc r hsp => ?_⟩
  have hl := len _ _ _ _ hsp
  have lim : s.heap.NoLimit := e0.mod.nolimit.keeps fun b o e => (e0.bs b o e).1
  obtain ⟨od, sl, pm, ctv, ho⟩ := lamO_at e0.hok hf
  refine PySem.W.kla_callFunE hr.depth ho rfl S.co S.gen rfl (codeO_at e0.hok hc) ?_
  rw [hb pm (.ref c) ctv us (by rw [← r.length]; exact hl)]
  refine wpAny_pure (wpAny_newFunctionEnv S.nocell (fun ⟨n, _⟩ hy => S.par n (List.of_mem_zip hy).1) (fun h₁ hns hsb => ⟨lim.fresh _ hsb, ?_⟩) S.kind)
  show codeAny _ _ (.expr L.body (envF (nfOf L c) f s.heap.objs.size)) _ _
  have kp : ∀ b o, s.heap.get? b = some o → h₁.get? b = some o := fun b o e => hsb.extBut b o (Nat.ne_of_lt (Heap.lt_size e)) (Heap.get?_push_of_some _ e)
  obtain ⟨t, ht, hq⟩ := hbody f c A outer s H vs Q E (hr.deeper _) hsp
  have C : CellsAt (nfOf L c).cl [] [] s.heap H := ⟨rfl, fun y c e => (by cases e), fun x y c e => (by cases e), fun i y e => (by simp at e)⟩
  have I : Inv (ncx CX P w K mg base N (nfOf L c) f A outer s H E) [] (startF N vs []) H { s with heap := h₁, toks := s.toks + (ps.zip us).length } := inv_startN (F := nfOf L c) S hr.hd e0 hl r C hns kp
  refine PySem.W.kla_codeExpr (wpAny_mono (ht.run [] _ (startF N vs []) H _ I hq) (fun u s' hs => ?_) fun e s' hs => hs)
  obtain ⟨v, H', J, rv, q⟩ := hs
  exact ⟨v, H', J.os, J.bare, J.base, J.hok, rv, q⟩
end
section
variable {X : Cx} {CX : CXT}
theorem fnAt_lam {pins : List (Addr × Obj)} {σ : L2.St} {H : Hp} {s : Shared} {f c : Addr} {L : LF} (I : Inv X pins σ H s) (e : H f = some (LamO f L c)) : PySem.W.FnAt f s.heap := by
  obtain ⟨od, sl, pm, ctv, ho⟩ := lamO_at I.hok e
  exact ⟨_, od, _, sl, ho⟩
/-- x(e, ..), x a name that holds a lambda -/
def tCallL (P : Program) (w : World) (K : PySem.W.Frag) (mg : Str → Option Value) (base : Heap) (CX : CXT) (k i : Nat) (E : XK) (t : TA) : TE := fun σ H Q => ∃ (f c : Addr) (L : LF) (ps : List Str) (sp : Sp), LamOk P w K mg base CX k L ps sp ∧ σ[i]? = some (some (.ref f)) ∧ H f = some (LamO f L c) ∧
  t σ H fun vs H1 => H1 f = some (LamO f L c) ∧ H1 c = some (CodeO c L.qual) ∧ sp vs H1 Q E
theorem pe_callL {k i : Nat} {x : Str} {p pos : Pos} {e : Expr} {es : List Expr} {E : XK} {t : TA} (hr : Room k X.A) (hx : Passes CX X E) (hN : X.N[i]? = some x) (hv : Vis X.env.scope x) (ha : PA X (e :: es) t)
    (hd : (x == ("__debug__" : Str)) = false := by decide) (hcd : (x == ("__classdict__" : Str)) = false := by decide)
    (he : starEach (e :: es) X.env = (false, eval e X.env) :: starEach es X.env := by rfl) (hpl : (backTo pos (starEach es X.env)).any (·.1) = false := by rfl) :
    PE X (.Call (.Name x p) (e :: es) [] pos) (tCallL X.prog X.w X.K X.mg X.base CX k i E t) := by
  refine ⟨fun pins s σ H Q I h => ?_⟩
  obtain ⟨f, c', L, ps, sp, ok, hs, hf, ht⟩ := h
  refine wpAny_Call_Name_kw (thn ((pe_var (pos := p) hN hv hd hcd).run pins s σ H (fun v H1 => v = .ref f ∧ H1 = H) I ⟨.ref f, hs, rfl, rfl⟩) fun u s1 ⟨v, H1, I1, r1, q1⟩ => ?_)
  obtain ⟨ev, eH⟩ := q1
  subst ev
  rw [eH] at I1
  obtain rfl : u = Value.ref f := r1
  refine PySem.W.callWith_F (first := []) (fnAt_lam I1 hf) (thn (ha.run pos pins s1 σ H _ I1 ht) fun us s2 ⟨vs, H2, I2, r, h1, h2, q⟩ => ⟨fnAt_lam I2 h1, ?_⟩) he hpl
  show wpAny _ _ (call (.ref f) us) _ _ _
  refine wpAny_call (codeAny_mono (ok.run f c' X.A X.stack s2 H2 us vs Q E hr I2.env0 h1 h2 r q) fun r s' hq => ?_)
  cases r with
  | error e => exact hx pins σ H2 s2 e s' I2 hq
  | ok fl =>
    cases fl with
    | ret u => exact I2.after hq
    | next => exact False.elim hq
    | brk => exact False.elim hq
    | cont => exact False.elim hq
def dCallL (i : Nat) (FL : LF → List D → Option D) (g : Rho → Option (List D)) : Den := fun ρ => match ρ[i]? with
  | some (some (.r (.clo L))) => (g ρ).bind (FL L)
  | _ => none
theorem q_callL {k i : Nat} {x : Str} {FL : LF → List D → Option D} {p pos : Pos} {e : Expr} {es : List Expr} {g : Rho → Option (List D)} (ok : ∀ L ds d, FL L ds = some d → ∃ ps, LamOk X.prog X.w X.K X.mg X.base L2.CX0 k L ps (spQ (FL L))) (hr : Room k X.A) (hN : X.N[i]? = some x) (hv : Vis X.env.scope x) (ha : QL X (e :: es) g)
    (hd : (x == ("__debug__" : Str)) = false := by decide) (hcd : (x == ("__classdict__" : Str)) = false := by decide)
    (he : starEach (e :: es) X.env = (false, eval e X.env) :: starEach es X.env := by rfl) (hpl : (backTo pos (starEach es X.env)).any (·.1) = false := by rfl) :
    QE X (.Call (.Name x p) (e :: es) [] pos) (dCallL i FL g) :=
  (pe_callL (E := fun _ _ _ => False) hr pass0 hN hv ha hd hcd he hpl).imp fun σ H Q ⟨H0, B, A, ρ, d, S, q, k⟩ => by
    unfold dCallL at q
    split at q
    · rename_i L hL
      obtain ⟨ds, e1, e2⟩ := bind1 q
      obtain ⟨ps, hok⟩ := ok L ds d e2
      obtain ⟨v, ev, a, c, rfl, na, nc, h1, h2⟩ := S.sl i _ hL
      exact ⟨a, c, L, ps, _, hok, ev, h1, H0, B, A, ρ, ds, S, e1, fun vs H1 s1 r1 => ⟨s1 _ _ h1, s1 _ _ h2, A, ds, d, S.muts.ext s1, r1, e2, fun v H2 s2 r2 => k v H2 (s1.trans s2) r2⟩⟩
    · cases q
end
end LY
set_option Elab.async false
set_option linter.all false
set_option maxRecDepth 100000
set_option maxHeartbeats 1000000
/-! LX5: data shown: repr -/
namespace LY
open PySem PySem.Spec PyProof.Rows L2 PySem.Calls
def keyPy : Key → PyData
  | .inl i => .int i
  | .inr x => .str x
mutual
def D.pyR : D → PyData
  | .non => .none
  | .bl b => .bool b
  | .int i => .int i
  | .str x => .str x
  | .raw _ => .none
  | .tup ds => .tuple (D.pyRs ds)
  | .lst ds => .list (D.pyRs ds)
  | .dic kvs => .dict (D.pyRk kvs)
  | .ins _ _ => .none
  | .exc _ _ => .none
  | .clo _ => .none
def D.pyRs : List D → List PyData
  | [] => []
  | d :: ds => d.pyR :: D.pyRs ds
def D.pyRk : List (Key × D) → List (PyData × PyData)
  | [] => []
  | (k, d) :: ds => (keyPy k, d.pyR) :: D.pyRk ds
end
mutual
/-- plain data -/
def D.shw : D → Bool
  | .non => true
  | .bl _ => true
  | .int _ => true
  | .str _ => true
  | .raw _ => false
  | .tup ds => D.shws ds
  | .lst ds => D.shws ds
  | .dic kvs => D.shwk kvs
  | .ins _ _ => false
  | .exc _ _ => false
  | .clo _ => false
def D.shws : List D → Bool
  | [] => true
  | d :: ds => d.shw && D.shws ds
def D.shwk : List (Key × D) → Bool
  | [] => true
  | (_, d) :: ds => d.shw && D.shwk ds
end
section
variable {X : Cx} {pins : List (Addr × Obj)} {σ : L2.St} {H : Hp} {s : Shared}
mutual
theorem Rp.reads (I : Inv X pins σ H s) (hs : ∃ o, X.base.get? sysModules = some o) {A : List Addr} : ∀ {d : D} {v : V} {u : Value}, d.shw = true → Rp A H d v → RelV v u → ∃ as, Reads s.heap u d.pyR as ∧ sysModules ∉ as
  | .non, _, _, _, h, r => by rw [show _ = V.non from h] at r; cases r; exact ⟨_, Reads.none, by simp⟩
  | .bl b, _, _, _, h, r => by rw [show _ = V.bl b from h] at r; cases r; exact ⟨_, Reads.bool b, by simp⟩
  | .int i, _, _, _, h, r => by rw [show _ = V.int i from h] at r; obtain ⟨t, rfl⟩ := r; exact ⟨_, Reads.int i t, by simp⟩
  | .str x, _, _, _, h, r => by rw [show _ = V.str x from h] at r; obtain ⟨t, rfl⟩ := r; exact ⟨_, Reads.str x t, by simp⟩
  | .raw _, _, _, f, _, _ => by rw [D.shw] at f; cases f
  | .ins _ _, _, _, f, _, _ => by rw [D.shw] at f; cases f
  | .exc _ _, _, _, f, _, _ => by rw [D.shw] at f; cases f
  | .clo _, _, _, f, _, _ => by rw [D.shw] at f; cases f
  | .tup ds, _, _, f, h, r => by
    rw [D.shw] at f
    obtain ⟨a, vs, rfl, n, ht, q⟩ := h
    cases r
    obtain ⟨its, rv, ⟨o, ho, hc, n, hd⟩, _⟩ := I.tuple (ht.sq (K := X.K))
    obtain ⟨as, hr, hn⟩ := RpL.reads I hs f q rv
    exact ⟨_, by rw [D.pyR]; exact Reads.tuple ho hc hd hr, hn⟩
  | .lst ds, _, _, f, h, r => by
    rw [D.shw] at f
    obtain ⟨a, vs, rfl, n, ht, q⟩ := h
    cases r
    have hne : sysModules ≠ a := fun z => by
      obtain ⟨o, ho⟩ := hs
      have := (I.bs _ o ho).2
      obtain ⟨u, hu⟩ := Rd.some ht
      rw [z, hu] at this; cases this
    obtain ⟨its, rv, ⟨o, n, ho, hc, _, hd⟩, _⟩ := I.list (ht.sq (K := X.K))
    obtain ⟨as, hr, hn⟩ := RpL.reads I hs f q rv
    exact ⟨_, by rw [D.pyR]; exact Reads.list ho hc hd hr, by simp [hne, hn]⟩
  | .dic kvs, _, _, f, h, r => by
    rw [D.shw] at f
    obtain ⟨a, vs, rfl, n, ht, q⟩ := h
    cases r
    have hne : sysModules ≠ a := fun z => by
      obtain ⟨o, ho⟩ := hs
      have := (I.bs _ o ho).2
      obtain ⟨u, hu⟩ := Rd.some ht
      rw [z, hu] at this; cases this
    have hk : ∃ us, KV vs us ∧ s.heap.DictOf (mixKind X.prog X.w) a us := by
      rcases ht with ht | ⟨o, ht⟩
      · obtain ⟨_, _, us, k, z⟩ := (show ObjOk X.prog X.w H s.heap a (.dK vs) from I.hok a _ ht)
        exact ⟨us, k, z⟩
      · obtain ⟨_, _, _, us, k, z⟩ := (show ObjOk X.prog X.w H s.heap a (.frz o (.dK vs)) from I.hok a _ ht)
        exact ⟨us, k, z⟩
    obtain ⟨us, k, o, es, ep, ho, hx, hd, _, hp, _⟩ := hk
    obtain ⟨as, bs, h1, h2, h3, h4⟩ := RpK.reads I hs f q k hp
    exact ⟨_, by rw [D.pyR]; exact Reads.dict ho hx.1 hd h1 h2, by simp [hne, h3, h4]⟩
theorem RpL.reads (I : Inv X pins σ H s) (hs : ∃ o, X.base.get? sysModules = some o) {A : List Addr} : ∀ {ds : List D} {vs : List V} {us : List Value}, D.shws ds = true → RpL A H ds vs → Vals vs us → ∃ as, ReadsAll s.heap us (D.pyRs ds) as ∧ sysModules ∉ as
  | [], _, _, _, h, r => by rw [show _ = [] from h] at r; cases r; exact ⟨_, by rw [D.pyRs]; exact ReadsAll.nil, by simp⟩
  | d :: ds, _, _, f, h, r => by
    rw [D.shws, Bool.and_eq_true] at f
    obtain ⟨v, rr, rfl, h1, h2⟩ := h
    cases r with
    | cons r1 r2 =>
      obtain ⟨as, q1, n1⟩ := Rp.reads I hs f.1 h1 r1
      obtain ⟨bs, q2, n2⟩ := RpL.reads I hs f.2 h2 r2
      exact ⟨_, by rw [D.pyRs]; exact ReadsAll.cons q1 q2, by simp [n1, n2]⟩
theorem RpK.reads (I : Inv X pins σ H s) (hs : ∃ o, X.base.get? sysModules = some o) {A : List Addr} : ∀ {ds : List (Key × D)} {vs : List (Key × V)} {us : List (Key × Value)} {es : List DictEntry}, D.shwk ds = true → RpK A H ds vs → KV vs us → Pairs (mixKind X.prog X.w) es us →
    ∃ as bs, ReadsAll s.heap (es.map (·.key)) ((D.pyRk ds).map (·.1)) as ∧ ReadsAll s.heap (es.map (·.val)) ((D.pyRk ds).map (·.2)) bs ∧ sysModules ∉ as ∧ sysModules ∉ bs
  | [], _, _, _, _, h, r, p => by
    rw [show _ = [] from h] at r
    cases r
    cases p
    exact ⟨_, _, by rw [D.pyRk]; exact ReadsAll.nil, by rw [D.pyRk]; exact ReadsAll.nil, by simp, by simp⟩
  | (key, d) :: ds, _, _, _, f, h, r, p => by
    rw [D.shwk, Bool.and_eq_true] at f
    obtain ⟨v, rr, rfl, h1, h2⟩ := h
    cases r with
    | @cons _ kv _ us hkv r2 =>
      obtain ⟨ek, rv⟩ := hkv
      cases p with
      | @cons e _ es _ hk hv p2 =>
        have ek : key = kv.1 := ek
        rw [← ek] at hk
        rw [← hv] at rv
        obtain ⟨as, q1, n1⟩ := Rp.reads I hs f.1 h1 rv
        obtain ⟨bs, cs, q2, q3, n2, n3⟩ := RpK.reads I hs f.2 h2 r2 p2
        have qk : Reads s.heap e.key (keyPy key) [] := by
          rcases keyIs_shape hk with ⟨i, t, e1, e2⟩ | ⟨x, t, e1, e2⟩
          · rw [e1, e2]; exact Reads.int i t
          · rw [e1, e2]; exact Reads.str x t
        exact ⟨_, _, by rw [D.pyRk]; exact ReadsAll.cons qk q2, by rw [D.pyRk]; exact ReadsAll.cons q1 q3, by simpa using n2, by simp [n1, n3]⟩
end
/-- repr(x) of data -/
def fRepr (d : D) : Option D := if (d.shw && d.pyR.showable && decide (d.pyR.shown.length ≤ 100000) && decide (d.pyR.depth ≤ 60)) = true then some (.str d.pyR.shown) else none
end
section
variable {X : Cx}
def rReprD (H0 : Hp) : List V → Hp → VK → Prop := fun xs H Q => ∃ (A : List Addr) (d : D) (v : V) (y : D), xs = [v] ∧ Rp A H d v ∧ fRepr d = some y ∧ ∀ u, Rp A H y u → Q u H
theorem call_reprD (hg : X.A.guards = some []) (hu : X.A.units + 65 < cLine) (hs : ∃ o, X.base.get? sysModules = some o) : CallR X (.builtin "repr") (rReprD X.H_0) := by
  intro pins s σ H xs us Q I r h
  obtain ⟨A, d, v, y, rfl, rd, e, q⟩ := h
  unfold fRepr at e
  split at e
  · rename_i hc
    cases e
    simp only [Bool.and_eq_true, decide_eq_true_eq] at hc
    obtain ⟨⟨⟨c1, c2⟩, c3⟩, c4⟩ := hc
    cases r with
    | @cons _ u _ _ r1 r2 =>
      cases r2
      obtain ⟨as, hr, hn⟩ := Rp.reads I hs c1 rd r1
      have q2 : ∀ z, z = d.pyR.shown → Q (.str z) H := fun z e => by rw [e]; exact q _ rfl
      clear q
      generalize d.pyR = p at *
      have hz : p.shown.length ≤ sizeLine := by rw [sizeLine_eq]; omega
      have fin : ∀ h' t' tk, (∀ b o, s.heap.get? b = some o → h'.get? b = some o) → EP X pins σ Q (.str p.shown t') { s with heap := h', toks := tk } := fun h' t' tk k => ⟨.str _, H, I.kept k, ⟨_, rfl⟩, q2 _ rfl⟩
      cases hr with
      | none => exact PySem.P.repr_of_none (by have z := fin s.heap s.toks (s.toks + 1) fun _ _ z => z; rw [PyData.shown] at z; exact z)
      | bool b => exact PySem.P.repr_of_bool (by have z := fin s.heap s.toks (s.toks + 1) fun _ _ z => z; rw [PyData.shown] at z; exact z)
      | int i t => exact PySem.P.repr_of_int (by rw [PyData.showable] at c2; exact of_decide_eq_true c2) (by have z := fin s.heap s.toks (s.toks + 1) fun _ _ z => z; rw [PyData.shown] at z; exact z)
      | str x t => exact PySem.P.repr_of_str (by have z := fin s.heap s.toks (s.toks + 1) fun _ _ z => z; rw [PyData.shown] at z; exact z) (by rw [PyData.shown] at hz; exact hz)
      | list h1 h2 h3 h4 => exact repr_of_reads' (.list h1 h2 h3 h4) c2 (fun _ => hn) hg (by omega) (fun _ _ z => z) (fun h' t' tk k => fin h' t' tk k) hz
      | tuple h1 h2 h3 h4 => exact repr_of_reads' (.tuple h1 h2 h3 h4) c2 (fun _ => hn) hg (by omega) (fun _ _ z => z) (fun h' t' tk k => fin h' t' tk k) hz
      | dict h1 h2 h3 h4 h5 => exact repr_of_reads' (.dict h1 h2 h3 h4 h5) c2 (fun _ => hn) hg (by omega) (fun _ _ z => z) (fun h' t' tk k => fin h' t' tk k) hz
  · cases e
end
end LY
set_option Elab.async false
set_option linter.all false
set_option maxRecDepth 100000
set_option maxHeartbeats 1000000
/-! LX6: defs that are called where no guard stands (they say repr) -/
namespace LY
open PySem PySem.Spec PyProof.Rows L2 PySem.Calls
structure FnOkG (P : Program) (w : World) (K : PySem.W.Frag) (mg : Str → Option Value) (base : Heap) (CX : CXT) (k : Nat) (f : Addr) (fd : FuncData) (ps : List Str) (sp : Sp) : Prop where
  len : ∀ vs H Q E, sp vs H Q E → vs.length = ps.length
  run : ∀ (A : Around) (outer : List Env) (s : Shared) (H : Hp) (args : Args) (us : List Value) (vs : List V) (Q : VK) (E : XK), Room k A → A.guards = some [] → Env0 P w K mg base A outer s H → BindsTo s fd args (ps.zip us) → Vals vs us → sp vs H Q E →
    codeAny (model P w) A (.call (.ref f) args) (CR CX outer P w H s Q E) s
section
variable {P : Program} {w : World} {K : PySem.W.Frag} {mg : Str → Option Value} {base : Heap} {x qual : Str} {params : Arguments} {body : List Stmt} {scope : Scope} {dvs : List V} {kws : List (Str × V)} {f : Addr} {fd : FuncData}
theorem FunD.okG {CX : CXT} {N ps : List Str} {k : Nat} {sp : Sp} (F : FunD K x qual params body scope dvs kws f fd) (S : FnScope N ps scope) (len : ∀ vs H Q E, sp vs H Q E → vs.length = ps.length)
    (hbody : ∀ (cdv : Value) (A : Around) (outer : List Env) (s : Shared) (H : Hp) (vs : List V) (Q : VK) (E : XK), Room k (A.deeper (envOfC qual scope s.heap.objs.size f cdv)) → (A.deeper (envOfC qual scope s.heap.objs.size f cdv)).guards = some [] → sp vs H Q E →
      ∃ t, PSs (cxOf CX P w K mg base N qual scope f cdv A outer s H E) body t ∧ t { nx := fun _ H' => Q .non H', rt := Q } (start N vs) H) : FnOkG P w K mg base CX (k + 1) f fd ps sp := by
  obtain ⟨oc, od, dV, kV, doc, pm, an, cdv, ct, osl, rfl, lk, hcd, _, _⟩ := F.ex
  exact ⟨len, fun A outer s H args us vs Q E hr hg e0 hb r hsp => LamX.run_ofS lk hcd S hr e0 hb r (len _ _ _ _ hsp) fun hr' => hbody cdv A outer s H vs Q E hr' hg hsp⟩
end
theorem fn_qG {CX : CXT} {P : Program} {w : World} {K : PySem.W.Frag} {mg : Str → Option Value} {base : Heap} {x qual : Str} {params : Arguments} {body : List Stmt} {scope : Scope} {dvs : List V} {kws : List (Str × V)} {f : Addr} {fd : FuncData} {N ps : List Str} {k : Nat} {F : List D → Option D} {G : Rho → Option Out}
    (Fd : FunD K x qual params body scope dvs kws f fd) (S : FnScope N ps scope) (hF : ∀ ds d, F ds = some d → ds.length = ps.length ∧ ∃ o, G (rho0 N.length ds) = some o ∧ outD o = some d)
    (hb : ∀ (cdv : Value) (A : Around) (outer : List Env) (s : Shared) (H : Hp) (E : XK), Room k (A.deeper (envOfC qual scope s.heap.objs.size f cdv)) → (A.deeper (envOfC qual scope s.heap.objs.size f cdv)).guards = some [] → QSs (cxOf CX P w K mg base N qual scope f cdv A outer s H E).nox body G) : FnOkG P w K mg base CX (k + 1) f fd ps (spQ F) := by
  refine FunD.okG Fd S (fun vs H Q E h => ?_) (fun cdv A outer s H vs Q E hr hg h => ⟨_, (hb cdv A outer s H E hr hg).nox, ?_⟩)
  · obtain ⟨A, ds, d, m, r, e, _⟩ := h
    rw [r.length, (hF ds d e).1]
  · obtain ⟨A', ds, d, m, r, e, q⟩ := h
    obtain ⟨_, o, e1, e2⟩ := hF ds d e
    refine ⟨H, A', A', rho0 N.length ds, o, sim0 N m r, e1, ?_⟩
    cases o with
    | nx ρ =>
      cases e2
      exact fun A2 σ2 H2 t S2 => q .non H2 S2.same rfl
    | ret d2 =>
      cases e2
      exact fun v H2 s2 r2 => q v H2 s2 r2
    | bk _ => cases e2
    | ct _ => cases e2
structure FnG (P : Program) (w : World) (K : PySem.W.Frag) (mg : Str → Option Value) (base : Heap) (k : Nat) (x : Str) (sp : Sp) : Prop where
  ex : ∃ (f : Addr) (fd : FuncData) (ps : List Str), mg x = some (.ref f) ∧ FnOkG P w K mg base CX0 k f fd ps sp ∧ PySem.W.keepIn K (.ref f) = true ∧ Binds K fd ps []
abbrev FnGX (X : Cx) (k : Nat) (x : Str) (sp : Sp) : Prop := FnG X.prog X.w X.K X.mg X.base k x sp
section
variable {X : Cx} {CX : CXT} {E : XK} {f : Addr} {fd : FuncData} {ps : List Str} {ds : List Value} {dvs : List V} {k : Nat} {sp : Sp} {x : Str} {p pos : Pos} {e : Expr} {es : List Expr} {t : TA}
theorem run_fnG {pins : List (Addr × Obj)} {σ : L2.St} {H : Hp} {s : Shared} {Q : VK} {us : List Value} {vs : List V} (F : FnOkG X.prog X.w X.K X.mg X.base CX k f fd ps sp) (hr : Room k X.A) (hgd : X.A.guards = some []) (hb : Binds X.K fd ps ds) (hd : Vals dvs ds) (hx : Passes CX X E)
    (I : Inv X pins σ H s) (r : Vals vs us) (h : sp (vs ++ dvs) H Q E) : wpAny (model X.prog X.w) X.A (call (.ref f) us) (EP X pins σ Q) X.xe s := by
  have r2 : Vals (vs ++ dvs) (us ++ ds) := r.append hd
  have hl : (us ++ ds).length = ps.length := by rw [← r2.length]; exact F.len _ _ _ _ h
  refine wpAny_call (codeAny_mono (F.run X.A X.stack s H ⟨us, []⟩ (us ++ ds) (vs ++ dvs) Q E hr hgd I.env0 (hb s us I.kIn hl) r2 h) fun r s' hq => ?_)
  cases r with
  | error e => exact hx pins σ H s e s' I hq
  | ok fl =>
    cases fl with
    | ret u => exact I.after hq
    | next => exact False.elim hq
    | brk => exact False.elim hq
    | cont => exact False.elim hq
theorem pe_callG (F : FnOkG X.prog X.w X.K X.mg X.base CX k f fd ps sp) (hr : Room k X.A) (hgd : X.A.guards = some []) (hg : Gl X x) (hm : X.mg x = some (.ref f)) (hk : PySem.W.keepIn X.K (.ref f) = true) (hb : Binds X.K fd ps ds) (hd : Vals dvs ds) (hx : Passes CX X E)
    (ha : PA X (e :: es) t) (hdb : (x == ("__debug__" : Str)) = false := by decide) (he : starEach (e :: es) X.env = (false, eval e X.env) :: starEach es X.env := by rfl) (hpl : (backTo pos (starEach es X.env)).any (·.1) = false := by rfl) :
    PE X (.Call (.Name x p) (e :: es) [] pos) (tCall sp dvs E t) := by
  refine ⟨fun pins s σ H Q I h => ?_⟩
  refine wpAny_Call_Name_kw (ld_glob I hg hm ?_ hdb)
  refine PySem.W.callWith_K (h₀ := X.base) I.ok.mod.kin hk (thn (ha.run pos pins s σ H _ I h) fun us s1 ⟨vs, H1, I1, r, q⟩ => ⟨I1.kIn, ?_⟩) he hpl
  exact run_fnG F hr hgd hb hd hx I1 r q
theorem q_callG {F : List D → Option D} {g : Rho → Option (List D)} (G : FnGX X k x (spQ F)) (hr : Room k X.A) (hgd : X.A.guards = some []) (hg : Gl X x) (ha : QL X (e :: es) g)
    (hdb : (x == ("__debug__" : Str)) = false := by decide) (he : starEach (e :: es) X.env = (false, eval e X.env) :: starEach es X.env := by rfl) (hpl : (backTo pos (starEach es X.env)).any (·.1) = false := by rfl) :
    QE X (.Call (.Name x p) (e :: es) [] pos) (dCall F g) := by
  obtain ⟨f, fd, ps, h1, h2, h3, h4⟩ := G.ex
  refine (pe_callG h2 hr hgd hg h1 h3 h4 .nil pass0 ha hdb he hpl).imp fun σ H Q ⟨H0, B, A, ρ, d, S, q, k⟩ => ?_
  obtain ⟨ds, e1, e2⟩ := bind1 q
  refine ⟨H0, B, A, ρ, ds, S, e1, fun vs H1 s1 r1 => ?_⟩
  exact ⟨A, ds, d, S.muts.ext s1, by rw [List.append_nil]; exact r1, e2, fun v H2 s2 r2 => k v H2 (s1.trans s2) r2⟩
/-- repr(e) -/
theorem q_repr {g : Den} (hgd : X.A.guards = some []) (hu : X.A.units + 65 < cLine) (hs : ∃ o, X.base.get? sysModules = some o) (hg : Gl X "repr") (hm : X.mg "repr" = none) (ha : QE X e g)
    (he : starEach [e] X.env = (false, eval e X.env) :: starEach [] X.env := by rfl) : QE X (.Call (.Name "repr" p) [e] [] pos) (d1 fRepr g) :=
  (pe_callB (call_reprD hgd hu hs) hg hm (by decide +kernel) (ql_cons ha ql_nil he) (by decide) (by decide) he (by rfl)).imp fun σ H Q ⟨H0, B, A, ρ, d, S, q, k⟩ => by
    obtain ⟨x, e1, e2⟩ := bind1 q
    refine ⟨H0, B, A, ρ, [x], S, by simp [dCons, dNil, e1], fun vs H1 s1 r1 => ?_⟩
    obtain ⟨v, rr, rfl, r2, r3⟩ := r1
    exact ⟨A, x, v, d, by rw [show rr = [] from r3], r2, e2, fun u ru => k u H1 s1 ru⟩
end
end LY
set_option Elab.async false
set_option linter.all false
set_option maxRecDepth 100000
set_option maxHeartbeats 1000000
/-! LX7: {'k': e} as a datum -/
namespace LY
open PySem PySem.Spec PyProof.Rows L2 PySem.Calls
section
variable {X : Cx}
def fDisp1 (k : Str) (d : D) : Option D := some (.dic [(.inr k, d)])
theorem q_disp1 {k : Str} {j : Nat} {p1 pos : Pos} {v : Expr} {g : Den} (hv : QE X v g) : QE X (.Dict [some (.Constant (.str k) j p1)] [v] pos) (d1 (fDisp1 k) g) :=
  (pe_disp (pps_cons pe_str hv pps_nil) (by rfl) (by rfl) (fun z => by cases z) (Nat.le_of_ble_eq_true rfl)).imp fun σ H Q ⟨H0, B, A, ρ, d, S, q, kk⟩ => by
    obtain ⟨x, e1, e2⟩ := bind1 q
    cases e2
    intro p hp
    have pA := S.muts.new hp
    refine ⟨H0, B, p :: A, ρ, x, S.add (Sm.new hp) hp upd_same rfl, e1, fun u H2 s2 r2 => ?_⟩
    have hp2 : H2 p = some (.dK []) := s2 _ _ upd_same
    refine ⟨hp2, [(.inr k, u)], rfl, Nat.le_of_ble_eq_true rfl, ?_⟩
    have sx : SameX (p :: A) H2 (upd H2 p (.dK (mergeK [] [(.inr k, u)]))) := fun a o n e => by
      rw [upd_ne fun z => n (by rw [z]; exact List.mem_cons_self)]; exact e
    refine kk (.ref p) _ (fun a o e => ?_) ⟨p, [(.inr k, u)], rfl, pA, .inl upd_same, u, [], rfl, (r2.ext sx).cut fun b hb => .inl (List.mem_cons_of_mem _ hb), rfl⟩
    have n : a ≠ p := ne_of_none e hp
    rw [upd_ne n]
    exact s2 _ _ (by rw [upd_ne n]; exact e)
end
end LY
set_option Elab.async false
set_option linter.all false
set_option maxRecDepth 100000
set_option maxHeartbeats 1000000
/-! LX8: list(range(e)) -/
namespace LY
open PySem PySem.Spec PyProof.Rows L2 PySem.Calls
section
variable {X : Cx}
def dListR (g : Den) : Rho → Option (List D) := fun ρ => (g ρ).bind fun d => match d with
  | .int j => if 0 ≤ j ∧ j ≤ 100000 then some (rangeD 0 j) else none
  | _ => none
theorem rpl_ints {A : List Addr} {H : Hp} (f : Nat → Int) : ∀ (l : List Nat), RpL A H (l.map fun i => .int (f i)) (l.map fun i => V.int (f i))
  | [] => rfl
  | i :: l => ⟨_, _, rfl, rfl, rpl_ints f l⟩
theorem f_listRange {p p2 pos pos2 : Pos} {a : Expr} {g : Den} (hc : X.calm = true) (hl : Gl X "list") (hlm : X.mg "list" = none) (hg : Gl X "range") (hm : X.mg "range" = none) (ha : QV X a g)
    (na : starEach [a] X.env = (false, eval a X.env) :: starEach [] X.env := by rfl) (nb : starEach [.Call (.Name "range" p2) [a] [] pos2] X.env = (false, eval (.Call (.Name "range" p2) [a] [] pos2) X.env) :: starEach [] X.env := by rfl) :
    QF X (.Call (.Name "list" p) [.Call (.Name "range" p2) [a] [] pos2] [] pos) (dListR g) :=
  (pe_listRg hc hl hlm (prg_1 hg hm ha na) nb).imp fun σ H Q ⟨H0, B, A, ρ, d, S, q, k⟩ => by
    obtain ⟨x, e1, e2⟩ := bind1 q
    refine ⟨H0, B, A, ρ, x, S, e1, fun v H1 s1 r1 => ?_⟩
    split at e2
    · rename_i j
      split at e2
      · rename_i hj
        cases e2
        refine ⟨j, r1.int, RgOk.of_le (Int.le_refl 0) (by omega) (by omega) hj.1, fun q hq => ?_⟩
        exact k q _ _ (s1.trans (Sm.new hq)) (s1.none hq) upd_same (rpl_ints (fun i => 0 + (i : Nat)) _)
      · cases e2
    · cases e2
end
end LY
set_option Elab.async false
set_option linter.all false
set_option maxRecDepth 100000
set_option maxHeartbeats 1000000
/-! LX9: what the generator says of own exceptions -/
namespace LY
open PySem PySem.Spec PyProof.Rows L2 PySem.Calls
def allX (nx : List Str) (cx : Str → Addr) : List Addr := nx.map cx
theorem mem_x {nx : List Str} (cx : Str → Addr) {n : Str} (h : n ∈ nx) : cx n ∈ allX nx cx := List.mem_map_of_mem h
/-- the own exception classes, by their names nx; n0 is the one with the __init__ -/
structure ExX (K : PySem.W.Frag) (mg : Str → Option Value) (base : Heap) (nx : List Str) (n0 : Str) (cx : Str → Addr) : Prop where
  c : ∀ C ∈ allX nx cx, XcR K (cx n0) C
  k : XcK K
  g : ∀ n ∈ nx, mg n = some (.ref (cx n))
  ve : mg "ValueError" = none
  sys : ∃ o, base.get? sysModules = some o
section
variable {P : Program} {w : World} {K : PySem.W.Frag} {mg : Str → Option Value} {base : Heap} {k : Nat} {x : Str} {st : Stmt} {ps : List Str} {sp : Sp}
theorem DefF.fnG (Df : DefF K mg x st) (hb : ∀ (kV doc pm : Value) (an : Option Addr) (cdv ct : Value) (us : List Value), us.length = ps.length → bindArgs (PySem.W.fnOf x x (defArgs st) (defBody st) (defScope st) .none kV doc pm an cdv ct) ⟨us, []⟩ = pure (ps.zip us))
    (h : ∀ f fd, FunD K x x (defArgs st) (defBody st) (defScope st) [] [] f fd → FnOkG P w K mg base L2.CX0 k f fd ps sp) : FnG P w K mg base k x sp := by
  obtain ⟨f, fd, h1, F⟩ := Df.ex
  exact ⟨⟨f, fd, ps, h1, h f fd F, F.kp, binds_of F hb⟩⟩
end
end LY
set_option Elab.async false
set_option linter.all false
set_option maxRecDepth 100000
set_option maxHeartbeats 1000000
/-! LX10: quiet defs that hand back a new dict -/
namespace LY
open PySem PySem.Spec PyProof.Rows L2 PySem.Calls
abbrev DenD := Rho → Option (List (Key × D))
def spQD (F : List D → Option (List (Key × D))) : Sp := fun vs H Q _ => ∃ A ds kvs, MutA A H ∧ RpL A H ds vs ∧ F ds = some kvs ∧ ∀ p us H', Sm H H' → H p = none → H' p = some (.dK us) → RpK (p :: A) H' kvs us → Q (.ref p) H'
def tSD (F : DenD) : TS := fun E σ H => ∃ H0 B A ρ kvs, Sim H0 B A H σ ρ ∧ F ρ = some kvs ∧ ∀ a vs H', Sm H0 H' → H0 a = none → H' a = some (.dK vs) → RpK (a :: B) H' kvs vs → E.rt (.ref a) H'
abbrev QSD (X : Cx) (st : List Stmt) (F : DenD) : Prop := PSs X st (tSD F)
section
variable {X : Cx}
theorem qsd_ret {i : Nat} {x : Str} {pp pos : Pos} (hN : X.N[i]? = some x) (hv : Vis X.env.scope x)
    (hd : (x == ("__debug__" : Str)) = false := by decide) (hcd : (x == ("__classdict__" : Str)) = false := by decide) : QSD X [.Return (some (.Name x pp)) pos] (oDic i) :=
  (pss_one (ps_ret (pe_var hN hv hd hcd))).imp fun E σ H ⟨H0, B, A, ρ, kvs, S, e1, k⟩ => by
    have e5 := oDic_some e1
    obtain ⟨a, h1, aA, vs, h2, h3⟩ := S.sl i _ e5
    obtain ⟨b, g1, g2⟩ := S.own i _ e5
    rw [h1] at g1; cases g1
    have n0 : H0 a = none := (S.newA a aA).resolve_left g2
    refine ⟨.ref a, h1, k a vs H S.same n0 h2 (h3.cut fun b hb => ?_)⟩
    rcases List.mem_cons.mp hb with rfl | hb
    · exact .inl aA
    · exact .inl (S.sub b hb)
def dSeqD (F : Rho → Option Out) (G : DenD) : DenD := fun ρ => (F ρ).bind fun o => match o with
  | .nx ρ1 => G ρ1
  | _ => none
theorem qsd_cons {st : Stmt} {rest : List Stmt} {F : Rho → Option Out} {G : DenD} (h1 : QS X st F) (h2 : QSD X rest G) : QSD X (st :: rest) (dSeqD F G) :=
  (pss_cons h1 h2).imp fun E σ H ⟨H0, B, A, ρ, kvs, S, q, k⟩ => by
    obtain ⟨o, e1, e2⟩ := bind1 q
    refine ⟨H0, B, A, ρ, o, S, e1, ?_⟩
    cases o with
    | nx ρ1 => exact fun A' σ' H' t S' => ⟨H0, B, A', ρ1, kvs, S', e2, k⟩
    | ret _ => cases e2
    | bk _ => cases e2
    | ct _ => cases e2
def dCallD (F : List D → Option (List (Key × D))) (g : Rho → Option (List D)) : DenD := fun ρ => (g ρ).bind F
theorem k_call {k : Nat} {x : Str} {F : List D → Option (List (Key × D))} {p pos : Pos} {e : Expr} {es : List Expr} {g : Rho → Option (List D)} (G : FnX X k x (spQD F)) (hr : Room k X.A) (hg : Gl X x) (ha : QL X (e :: es) g)
    (hdb : (x == ("__debug__" : Str)) = false := by decide) (he : starEach (e :: es) X.env = (false, eval e X.env) :: starEach es X.env := by rfl) (hpl : (backTo pos (starEach es X.env)).any (·.1) = false := by rfl) :
    QK X (.Call (.Name x p) (e :: es) [] pos) (dCallD F g) := by
  obtain ⟨f, fd, ps, h1, h2, h3, h4⟩ := G.ex
  refine (pe_call h2 hr hg h1 h3 h4 .nil pass0 ha hdb he hpl).imp fun σ H Q ⟨H0, B, A, ρ, d, S, q, k⟩ => ?_
  obtain ⟨ds, e1, e2⟩ := bind1 q
  refine ⟨H0, B, A, ρ, ds, S, e1, fun vs H1 s1 r1 => ?_⟩
  exact ⟨A, ds, d, S.muts.ext s1, by rw [List.append_nil]; exact r1, e2, fun a us H2 s2 n0 h1 r2 => k a us H2 (s1.trans s2) (s1.none n0) h1 r2⟩
end
theorem fn_qD {CX : CXT} {P : Program} {w : World} {K : PySem.W.Frag} {mg : Str → Option Value} {base : Heap} {x qual : Str} {params : Arguments} {body : List Stmt} {scope : Scope} {dvs : List V} {kws : List (Str × V)} {f : Addr} {fd : FuncData} {N ps : List Str} {k : Nat} {F : List D → Option (List (Key × D))} {G : DenD}
    (Fd : FunD K x qual params body scope dvs kws f fd) (S : FnScope N ps scope) (hF : ∀ ds d, F ds = some d → ds.length = ps.length ∧ G (rho0 N.length ds) = some d)
    (hb : ∀ (cdv : Value) (A : Around) (outer : List Env) (s : Shared) (H : Hp) (E : XK), Room k (A.deeper (envOfC qual scope s.heap.objs.size f cdv)) → QSD (cxOf CX P w K mg base N qual scope f cdv A outer s H E).nox body G) : FnOk P w K mg base CX (k + 1) f fd ps (spQD F) := by
  refine Fd.ok S (fun vs H Q E h => ?_) (fun cdv A outer s H vs Q E hr h => ⟨_, (hb cdv A outer s H E hr).nox, ?_⟩)
  · obtain ⟨A, ds, d, m, r, e, _⟩ := h
    rw [r.length, (hF ds d e).1]
  · obtain ⟨A', ds, d, m, r, e, q⟩ := h
    exact ⟨H, A', A', rho0 N.length ds, d, sim0 N m r, (hF ds d e).2, fun a us H2 s2 n0 h1 r2 => q a us H2 s2 n0 h1 r2⟩
theorem hFD_of (n m : Nat) {ps N : List Str} {G : DenD} (h1 : ps.length = n) (h2 : N.length = m) : ∀ (ds : List D) (d : List (Key × D)), (if ds.length = n then G (rho0 m ds) else none) = some d → ds.length = ps.length ∧ G (rho0 N.length ds) = some d := by
  intro ds d h
  split at h
  · rename_i hl
    exact ⟨by rw [hl, h1], by rw [h2]; exact h⟩
  · cases h
end LY
set_option Elab.async false
set_option linter.all false
set_option maxRecDepth 100000
set_option maxHeartbeats 1000000
/-! LX11: a list of (name, lambda) filled -/
namespace LY
open PySem PySem.Spec PyProof.Rows L2 PySem.Calls LamX NdefX
/-- all but A and the tables stays -/
def SameN (A : List Addr) (H H' : Hp) : Prop := ∀ a o, a ∉ A → H a = some o → (∀ ps, o ≠ .tbl ps) → H' a = some o
theorem Rd.n {A : List Addr} {H H' : Hp} {a : Addr} {u : HO} (s : SameN A H H') (n : a ∉ A) (hu : ∀ ps, u ≠ .tbl ps) (h : Rd H a u) : Rd H' a u := by
  rcases h with h | ⟨o, h⟩
  · exact .inl (s a _ n h hu)
  · exact .inr ⟨o, s a _ n h fun ps z => by cases z⟩
mutual
theorem Rp.extN {A : List Addr} {H H' : Hp} (s : SameN A H H') : ∀ {d : D} {v : V}, Rp A H d v → Rp A H' d v
  | .non, _, h => h
  | .bl _, _, h => h
  | .int _, _, h => h
  | .str _, _, h => h
  | .raw _, _, h => h
  | .tup ds, v, h => by
    obtain ⟨a, vs, e, n, ⟨o, r, z⟩, q⟩ := h
    exact ⟨a, vs, e, n, ⟨o, s _ _ n r (fun ps z => by cases z), z⟩, RpL.extN s q⟩
  | .lst ds, v, h => by
    obtain ⟨a, vs, e, n, r, q⟩ := h
    exact ⟨a, vs, e, n, Rd.n s n (fun ps z => by cases z) r, RpL.extN s q⟩
  | .dic kvs, v, h => by
    obtain ⟨a, vs, e, n, r, q⟩ := h
    exact ⟨a, vs, e, n, Rd.n s n (fun ps z => by cases z) r, RpK.extN s q⟩
  | .ins C fs, v, h => by
    obtain ⟨a, dx, vs, e, n, r, q⟩ := h
    exact ⟨a, dx, vs, e, n, s _ _ n r (fun ps z => by cases z), RpF.extN s q⟩
  | .exc C fs, v, h => by
    obtain ⟨a, dx, vs, e, n, m, r, r2, q⟩ := h
    exact ⟨a, dx, vs, e, n, m, s _ _ n r (fun ps z => by unfold exo at z; cases z), s _ _ m r2 (fun ps z => by unfold exd at z; cases z), RpF.extN s q⟩
  | .clo L, v, h => by
    obtain ⟨a, c, e, n, m, r, r2⟩ := h
    exact ⟨a, c, e, n, m, s _ _ n r (fun ps z => by unfold LamO at z; cases z), s _ _ m r2 (fun ps z => by unfold CodeO at z; cases z)⟩
theorem RpL.extN {A : List Addr} {H H' : Hp} (s : SameN A H H') : ∀ {ds : List D} {vs : List V}, RpL A H ds vs → RpL A H' ds vs
  | [], _, h => h
  | d :: ds, _, h => by
    obtain ⟨v, r, e, h1, h2⟩ := h
    exact ⟨v, r, e, Rp.extN s h1, RpL.extN s h2⟩
theorem RpK.extN {A : List Addr} {H H' : Hp} (s : SameN A H H') : ∀ {ds : List (Key × D)} {vs : List (Key × V)}, RpK A H ds vs → RpK A H' ds vs
  | [], _, h => h
  | (k, d) :: ds, _, h => by
    obtain ⟨v, r, e, h1, h2⟩ := h
    exact ⟨v, r, e, Rp.extN s h1, RpK.extN s h2⟩
theorem RpF.extN {A : List Addr} {H H' : Hp} (s : SameN A H H') : ∀ {ds : List (Str × D)} {vs : List (Str × V)}, RpF A H ds vs → RpF A H' ds vs
  | [], _, h => h
  | (k, d) :: ds, _, h => by
    obtain ⟨v, r, e, h1, h2⟩ := h
    exact ⟨v, r, e, Rp.extN s h1, RpF.extN s h2⟩
end
/-- slot 0 holds the list that is filled -/
structure MdS (T : List (Addr × Str)) (H0 : Hp) (A : List Addr) (H : Hp) (σ : L2.St) (ds : List D) : Prop where
  ex : ∃ p vs, σ[0]? = some (some (.ref p)) ∧ H0 p = none ∧ H p = some (.lst vs) ∧ RpL (p :: A) H ds vs
  tab : Tabs T H
  ext : ExtN H0 H
  mA : MutA A H0
  nt : ∀ a ∈ A, ∀ ps, H0 a ≠ some (.tbl ps)
theorem Tabs.updL {T : List (Addr × Str)} {H : Hp} {p : Addr} {vs us : List V} (h : Tabs T H) (e : H p = some (.lst vs)) : Tabs T (upd H p (.lst us)) := fun q hq => by
  obtain ⟨ps, a1, a2, a3⟩ := h q hq
  refine ⟨ps, by rw [upd_ne fun z => by rw [z, e] at a1; cases a1]; exact a1, a2, fun pos cv hc => ?_⟩
  obtain ⟨c0, e1, e2⟩ := a3 pos cv hc
  exact ⟨c0, e1, by rw [upd_ne fun z => by rw [z, e] at e2; unfold CodeO at e2; cases e2]; exact e2⟩
def mkPair (n : Str) (L : LF) : D := .tup [.str n, .clo L]
def tMd (T : List (Addr × Str)) (n : Str) (L : LF) : TS := fun E σ H => ∃ H0 A ds, MdS T H0 A H σ ds ∧ ds.length ≤ 1000 ∧ ∀ H', MdS T H0 A H' σ (ds ++ [mkPair n L]) → E.nx σ H'
section
variable {X : Cx}
theorem ps_md {T : List (Addr × Str)} {c P : Addr} {x n : Str} {j kk : Nat} {params : Arguments} {body : Expr} {scope : Scope} {p1 p2 p3 p4 p5 p6 p7 : Pos} (hN : X.N[0]? = some x) (hv : Vis X.env.scope x)
    (TB : TabB X.base X.mg c P) (hcode : X.env.code = .ref c) (hm : (P, X.env.qual ++ "<lambda>") ∈ T) (hu : ∀ p ∈ T, p.1 = P → p.2 = X.env.qual ++ "<lambda>")
    (hdef : defaultsOf params X.env = ([], [])) (hfree : ∀ y ∈ scope.names, y.2 ≠ .free) (hcl : cloFrom X.env.cells scope.names [] = [])
    (hd : (x == ("__debug__" : Str)) = false := by decide) (hcd : (x == ("__classdict__" : Str)) = false := by decide)
    (hbase : attributeBase (.Name x p1) "append" X.env (eval (.Name x p1) X.env) = eval (.Name x p1) X.env := by rfl)
    (hfew : ((backTo p3 (starEach [.Tuple [.Constant (.str n) j p4, .Lambda params body scope p5] kk p6] X.env)).all (fun x => !x.1) && (backToKw p3 (keywordEach [] X.env)).all (fun x => x.1.isSome)
      && decide (([.Tuple [.Constant (.str n) j p4, .Lambda params body scope p5] kk p6] : List Expr).length + ([] : List Keyword).length + (if ([] : List Keyword).isEmpty then 0 else 1) < 30)) = true := by rfl)
    (hline : (p2.endLine == p3.line) = true := by rfl) (hs : starEach [.Tuple [.Constant (.str n) j p4, .Lambda params body scope p5] kk p6] X.env = (false, eval (.Tuple [.Constant (.str n) j p4, .Lambda params body scope p5] kk p6) X.env) :: starEach [] X.env := by rfl)
    (hs2 : starEach [.Constant (.str n) j p4, .Lambda params body scope p5] X.env = (false, eval (.Constant (.str n) j p4) X.env) :: starEach [.Lambda params body scope p5] X.env := by rfl) (hs3 : starEach [.Lambda params body scope p5] X.env = (false, eval (.Lambda params body scope p5) X.env) :: starEach [] X.env := by rfl)
    (hsw : swapsWith (.Call (.Attribute (.Name x p1) "append" p2) [.Tuple [.Constant (.str n) j p4, .Lambda params body scope p5] kk p6] [] p3) none p7.line X.env = pure false := by rfl) :
    PS X (.Expr (.Call (.Attribute (.Name x p1) "append" p2) [.Tuple [.Constant (.str n) j p4, .Lambda params body scope p5] kk p6] [] p3) p7) (tMd T n ⟨X.env.qual ++ "<lambda>", params, body, scope⟩) :=
  (ps_expr (pe_bm PySem.F.plainAttrs_list PySem.F.slot_list_append PySem.F.type_list_append mt_append (pe_var hN hv hd hcd) (pa_cons (pe_tupS (pa_cons pe_str (pa_cons (pe_lam TB hcode hm hu hdef hfree hcl) pa_nil hs3) hs2)) pa_nil hs) hbase hfew hline hs (by rfl)) hsw).imp fun E σ H ⟨H0, A, ds, S, hl, k⟩ => by
    obtain ⟨⟨p, vs, e1, e2, e3, e4⟩, tab, ext, mA, nt⟩ := S
    refine ⟨.ref p, e1, .inl ⟨rfl, vs, SqL.of e3⟩, tab, fun f c' H1 xE hn T1 nf hf hc => ⟨by rw [sizeLine_eq]; exact Nat.le_of_ble_eq_true rfl, fun a o na no => ?_⟩⟩
    have h1p : H1 p = some (.lst vs) := xE p _ e3 (fun ps z => by cases z)
    have npa : p ≠ a := ne_of_none h1p na
    have nfp : f ≠ p := fun z => by rw [z, e3] at nf; cases nf
    have nfa : f ≠ a := ne_of_none hf na
    have nca : c' ≠ a := ne_of_none hc na
    have ncp : c' ≠ p := fun z => by rw [z, h1p] at hc; unfold CodeO at hc; cases hc
    have inA : ∀ b ∈ A, ∃ ob, H b = some ob ∧ H1 b = some ob ∧ isMut ob = true := fun b hb => by
      obtain ⟨ob, g1, g2⟩ := mA b hb
      have t : ∀ ps, ob ≠ .tbl ps := fun ps z => nt b hb ps (by rw [g1, z])
      exact ⟨ob, ext b ob g1 t, xE b ob (ext b ob g1 t) t, g2⟩
    refine ⟨p, vs, .ref a, rfl, rfl, (upd_ne npa).trans h1p, by rw [e4.length, sizeLine_eq]; omega, k _ ⟨⟨p, vs ++ [.ref a], e1, e2, upd_same, (e4.extN ?_).append (.one ⟨a, [.str n, .ref f], rfl, ?_, ⟨o, (upd_ne (Ne.symm npa)).trans upd_same, no⟩, .str n, [.ref f], rfl, rfl, .ref f, [], rfl, ⟨f, c', rfl, ?_, ?_, ?_, ?_⟩, rfl⟩)⟩, ?_, ?_, mA, nt⟩⟩
    · intro b ob nb eb tb
      have z := xE b ob eb tb
      rw [upd_ne (fun w => nb (by rw [w]; exact List.mem_cons_self)), upd_ne (ne_of_none z na)]
      exact z
    · intro w
      rcases List.mem_cons.mp w with w | w
      · exact npa w.symm
      · obtain ⟨ob, _, g, _⟩ := inA a w
        rw [na] at g; cases g
    · intro w
      rcases List.mem_cons.mp w with w | w
      · exact nfp w
      · obtain ⟨ob, g, _⟩ := inA f w
        rw [nf] at g; cases g
    · intro w
      rcases List.mem_cons.mp w with w | w
      · exact ncp w
      · obtain ⟨ob, _, g, m⟩ := inA c' w
        rw [hc] at g; cases g; unfold CodeO at m; cases m
    · rw [upd_ne nfp, upd_ne nfa]; exact hf
    · rw [upd_ne ncp, upd_ne nca]; exact hc
    · refine Tabs.updL (T1.ext fun b ob z => by rw [upd_ne (ne_of_none z na)]; exact z) ((upd_ne npa).trans h1p)
    · intro b ob eb tb
      have z := xE b ob (ext b ob eb tb) tb
      rw [upd_ne (fun w => by rw [w, e2] at eb; cases eb), upd_ne (ne_of_none z na)]
      exact z
end
end LY
set_option Elab.async false
set_option linter.all false
set_option maxRecDepth 100000
set_option maxHeartbeats 1000000
/-! LX12: the defs that fill such a list -/
namespace LY
open PySem PySem.Spec PyProof.Rows L2 PySem.Calls LamX NdefX
def pairsL (xs : List (Str × LF)) : List D := xs.map fun x => mkPair x.1 x.2
/-- the rest of the def, at a list that holds ds: it hands back the list, with all of xs behind -/
def tMds (T : List (Addr × Str)) (xs : List (Str × LF)) : TS := fun E σ H => ∃ H0 A ds, MdS T H0 A H σ ds ∧ ds.length + xs.length ≤ 1000 ∧ ∀ p vs H', Tabs T H' → ExtN H0 H' → H0 p = none → H' p = some (.lst vs) → RpL (p :: A) H' (ds ++ pairsL xs) vs → E.rt (.ref p) H'
section
variable {X : Cx}
theorem md_ret {T : List (Addr × Str)} {x : Str} {pp pos : Pos} (hN : X.N[0]? = some x) (hv : Vis X.env.scope x)
    (hd : (x == ("__debug__" : Str)) = false := by decide) (hcd : (x == ("__classdict__" : Str)) = false := by decide) : PSs X [.Return (some (.Name x pp)) pos] (tMds T []) :=
  (pss_one (ps_ret (pe_var hN hv hd hcd))).imp fun E σ H ⟨H0, A, ds, ⟨⟨p, vs, e1, e2, e3, e4⟩, tab, ext, mA, nt⟩, hl, k⟩ =>
    ⟨.ref p, e1, k p vs H tab ext e2 e3 (by rw [show pairsL [] = [] from rfl, List.append_nil]; exact e4)⟩
theorem md_cons {T : List (Addr × Str)} {n : Str} {L : LF} {xs : List (Str × LF)} {st : Stmt} {rest : List Stmt} (h1 : PS X st (tMd T n L)) (h2 : PSs X rest (tMds T xs)) : PSs X (st :: rest) (tMds T ((n, L) :: xs)) :=
  (pss_cons h1 h2).imp fun E σ H ⟨H0, A, ds, S, hl, k⟩ =>
    ⟨H0, A, ds, S, by rw [List.length_cons] at hl; omega, fun H' S' => ⟨H0, A, ds ++ [mkPair n L], S', by rw [List.length_append]; rw [List.length_cons] at hl; simp; omega, fun p vs H2 t e n0 h r => k p vs H2 t e n0 h (by
      rw [List.append_assoc] at r; exact r)⟩⟩
end
def spMade (T : List (Addr × Str)) (xs : List (Str × LF)) : Sp := fun vs H Q _ => vs = [] ∧ ∃ A, Tabs T H ∧ MutA A H ∧ (∀ a ∈ A, ∀ ps, H a ≠ some (.tbl ps)) ∧ ∀ p us H', Tabs T H' → ExtN H H' → H p = none → H' p = some (.lst us) → RpL (p :: A) H' (pairsL xs) us → Q (.ref p) H'
end LY
set_option Elab.async false
set_option linter.all false
set_option maxRecDepth 100000
set_option maxHeartbeats 1000000
/-! LX13: such defs, whole -/
namespace LY
open PySem PySem.Spec PyProof.Rows L2 PySem.Calls LamX NdefX
def tMk (T : List (Addr × Str)) (xs : List (Str × LF)) : TS := fun E σ H => σ.length = 1 ∧ xs.length ≤ 1000 ∧ ∃ A, Tabs T H ∧ MutA A H ∧ (∀ a ∈ A, ∀ ps, H a ≠ some (.tbl ps)) ∧ ∀ p us H', Tabs T H' → ExtN H H' → H p = none → H' p = some (.lst us) → RpL (p :: A) H' (pairsL xs) us → E.rt (.ref p) H'
section
variable {X : Cx}
theorem md_start0 {T : List (Addr × Str)} {xs : List (Str × LF)} {x : Str} {p1 p2 pos : Pos} {rest : List Stmt} (hN : X.N.Nodup) (hi : X.N[0]? = some x) (hx : Loc X.env.scope x) (h2 : PSs X rest (tMds T xs))
    (hs : swapsWith (.List [] p2) (some (.Name x p1)) pos.line X.env = pure false := by rfl) (hf : X.fn x = true ∨ X.env.scope.names.lookup x = some .local := by first | exact .inl rfl | exact .inr rfl | assumption) :
    PSs X (.Assign [.Name x p1] (.List [] p2) pos :: rest) (tMk T xs) :=
  (pss_cons (ps_set hN hi hx (pe_lst pa_nil) hs hf) h2).imp fun E σ H ⟨hσ, hl, A, tab, mA, nt, k⟩ => by
    refine ⟨by rw [sizeLine_eq]; exact Nat.le_of_ble_eq_true rfl, fun p hp => ?_⟩
    refine ⟨H, A, [], ⟨⟨p, [], by rw [List.getElem?_set_self (by omega)], hp, upd_same, rfl⟩, tab.ext fun b o e => by rw [upd_ne (ne_of_none e hp)]; exact e, fun b o e _ => by rw [upd_ne (ne_of_none e hp)]; exact e, mA, nt⟩, by simpa using hl, fun q vs H2 t e n0 h r => k q vs H2 t e n0 h r⟩
theorem md_start1 {T : List (Addr × Str)} {xs ys : List (Str × LF)} {x y : Str} {k : Nat} {p1 p2 p3 pos : Pos} {rest : List Stmt} (G : FnX X k y (spMade T ys)) (hr : Room k X.A) (hg : Gl X y) (hN : X.N.Nodup) (hi : X.N[0]? = some x) (hx : Loc X.env.scope x) (h2 : PSs X rest (tMds T xs))
    (hdb : (y == ("__debug__" : Str)) = false := by decide)
    (hs : swapsWith (.Call (.Name y p2) [] [] p3) (some (.Name x p1)) pos.line X.env = pure false := by rfl) (hf : X.fn x = true ∨ X.env.scope.names.lookup x = some .local := by first | exact .inl rfl | exact .inr rfl | assumption) :
    PSs X (.Assign [.Name x p1] (.Call (.Name y p2) [] [] p3) pos :: rest) (tMk T (ys ++ xs)) := by
  obtain ⟨f, fd, ps, g1, g2, g3, g4⟩ := G.ex
  refine (pss_cons (ps_set hN hi hx (pe_call0 g2 hr hg g1 g3 g4 .nil pass0 hdb) hs hf) h2).imp fun E σ H ⟨hσ, hl, A, tab, mA, nt, k⟩ => ?_
  refine ⟨rfl, A, tab, mA, nt, fun p us H' t1 e1 n1 h1 r1 => ?_⟩
  refine ⟨H, A, pairsL ys, ⟨⟨p, us, by rw [List.getElem?_set_self (by omega)], n1, h1, r1⟩, t1, e1, mA, nt⟩, by rw [List.length_append] at hl; unfold pairsL; rw [List.length_map]; exact hl, fun q vs H2 t e n0 h r => k q vs H2 t e n0 h (by unfold pairsL at r ⊢; rw [List.map_append]; exact r)⟩
end
theorem fn_made {CX : CXT} {P : Program} {w : World} {K : PySem.W.Frag} {mg : Str → Option Value} {base : Heap} {x qual : Str} {params : Arguments} {body : List Stmt} {scope : Scope} {dvs : List V} {kws : List (Str × V)} {f : Addr} {fd : FuncData} {y : Str} {k : Nat} {T : List (Addr × Str)} {xs : List (Str × LF)}
    (Fd : FunD K x qual params body scope dvs kws f fd) (S : FnScope [y] [] scope) (hl : xs.length ≤ 1000)
    (hb : ∀ (cdv : Value) (A : Around) (outer : List Env) (s : Shared) (H : Hp) (E : XK), Room k (A.deeper (envOfC qual scope s.heap.objs.size f cdv)) → PSs (cxOf CX P w K mg base [y] qual scope f cdv A outer s H E) body (tMk T xs)) : FnOk P w K mg base CX (k + 1) f fd [] (spMade T xs) := by
  refine Fd.ok S (fun vs H Q E h => by rw [h.1]; rfl) (fun cdv A outer s H vs Q E hr h => ⟨_, hb cdv A outer s H E hr, ?_⟩)
  obtain ⟨rfl, A', h⟩ := h
  exact ⟨rfl, hl, A', h⟩
end LY
set_option Elab.async false
set_option linter.all false
set_option maxRecDepth 100000
set_option maxHeartbeats 1000000
/-! LX14: a def whose code object is known -/
namespace LY
open PySem PySem.Spec PyProof.Rows L2 PySem.Calls LamX NdefX
theorem fn_madeC {CX : CXT} {P : Program} {w : World} {K : PySem.W.Frag} {mg : Str → Option Value} {base : Heap} {x qual : Str} {params : Arguments} {body : List Stmt} {scope : Scope} {dvs : List V} {kws : List (Str × V)} {f c : Addr} {fd : FuncData} {y : Str} {k : Nat} {T : List (Addr × Str)} {xs : List (Str × LF)}
    (Fd : FunD K x qual params body scope dvs kws f fd) (hc : fd.code = .ref c) (S : FnScope [y] [] scope) (hl : xs.length ≤ 1000)
    (hb : ∀ (A : Around) (outer : List Env) (s : Shared) (H : Hp) (E : XK), Room k (A.deeper (envOfC qual scope s.heap.objs.size f (.ref c))) → PSs (cxOf CX P w K mg base [y] qual scope f (.ref c) A outer s H E) body (tMk T xs)) : FnOk P w K mg base CX (k + 1) f fd [] (spMade T xs) := by
  obtain ⟨oc, od, dV, kV, doc, pm, an, cdv, ct, osl, rfl, lk, hcd, _, _⟩ := Fd.ex
  have hc : cdv = .ref c := hc
  subst hc
  refine fn_of lk hcd S (fun vs H Q E h => by rw [h.1]; rfl) fun A outer s H vs Q E hr h => ⟨_, hb A outer s H E hr, ?_⟩
  obtain ⟨rfl, A', h⟩ := h
  exact ⟨rfl, hl, A', h⟩
end LY
set_option Elab.async false
set_option linter.all false
set_option maxRecDepth 100000
set_option maxHeartbeats 1000000
/-! LX15: lambda value: C(value) -/
namespace LY
open PySem PySem.Spec PyProof.Rows L2 PySem.Calls LamX NdefX
def F1 (F : D → Option D) : List D → Option D
  | [d] => F d
  | _ => none
theorem lam_q {P : Program} {w : World} {K : PySem.W.Frag} {mg : Str → Option Value} {base : Heap} {L : LF} {k : Nat} {y : Str} {F : D → Option D} {g : Den} (S : NScope [y] [y] [] L.scope)
    (hb : ∀ (pm cv ctv : Value) (us : List Value), us.length = 1 → bindArgs (PySem.W.kla_fn "<lambda>" L.qual L.params L.body L.scope [] pm cv ctv) ⟨us, []⟩ = pure (([y] : List Str).zip us))
    (hg : ∀ d e, F d = some e → g [some (.r d)] = some e)
    (hbody : ∀ (f c : Addr) (A : Around) (outer : List Env) (s : Shared) (H : Hp) (E : XK), Room k (A.deeper (envF (nfOf L c) f s.heap.objs.size)) → QE (ncx L2.CX0 P w K mg base [y] (nfOf L c) f A outer s H E) L.body g) :
    LamOk P w K mg base L2.CX0 (k + 1) L [y] (spQ (F1 F)) := by
  refine lamok_of S hb (fun vs H Q E ⟨A, ds, d, m, r, e, _⟩ => ?_) fun f c A outer s H vs Q E hr ⟨A', ds, d, m, r, e, q⟩ => ⟨_, hbody f c A outer s H E hr, ?_⟩
  · rw [r.length]
    match ds, e with
    | [x], _ => rfl
  · match ds, e, r with
    | [x], e, r =>
      obtain ⟨v, rr, rfl, r1, r2⟩ := r
      rw [show rr = [] from r2] at *
      exact ⟨H, A', A', rho0 1 [x], d, sim0 [y] m ⟨v, [], rfl, r1, rfl⟩, hg x d e, fun u H' s' ru => q u H' s' ru⟩
end LY
set_option Elab.async false
set_option linter.all false
set_option maxRecDepth 100000
set_option maxHeartbeats 1000000
/-! LX16: for name, made in f(): .. , f a def that fills a list of lambdas -/
namespace LY
open PySem PySem.Spec PyProof.Rows L2 PySem.Calls LamX NdefX
theorem MutA.nt {A : List Addr} {H : Hp} (m : MutA A H) : ∀ a ∈ A, ∀ ps, H a ≠ some (.tbl ps) := fun a ha ps e => by
  obtain ⟨o, e1, e2⟩ := m a ha
  rw [e] at e1; cases e1; cases e2
theorem MutA.extN {A : List Addr} {H H1 : Hp} (m : MutA A H) (s : ExtN H H1) : MutA A H1 := fun a ha => by
  obtain ⟨o, e1, e2⟩ := m a ha
  exact ⟨o, s a o e1 (fun ps z => by rw [z] at e2; cases e2), e2⟩
theorem Sim.extN {B : List Addr} {H H1 : Hp} {σ : L2.St} {ρ : Rho} (S : Sim H B B H σ ρ) (s : ExtN H H1) : Sim H1 B B H1 σ ρ := by
  have no : ∀ (i : Nat) (d : D), ρ[i]? = some (some (.o d)) → False := fun i d e => by
    obtain ⟨a, h1, h2, _⟩ := S.sl i _ e
    obtain ⟨b, g1, g2⟩ := S.own i d e
    rw [h1] at g1; cases g1
    exact g2 h2
  refine ⟨S.len, Sm.refl _, S.muts.extN s, fun a h => h, fun a h => .inl h, fun i x e => ?_, fun i d e => (no i d e).elim, fun i j d e a h => (no i d h).elim⟩
  cases x with
  | r d =>
    obtain ⟨v, h1, h2⟩ := S.sl i _ e
    exact ⟨v, h1, h2.extN fun a o _ e t => s a o e t⟩
  | o d => exact (no i d e).elim
def tForMade (T : List (Addr × Str)) (xs : List (Str × LF)) (p : Addr) (b : D → Rho → Option Rho) (F : TSt) : TS := fun E σ H => ∃ B ρ c P, p ∈ B ∧ Sim H B B H σ ρ ∧ PotAt H p c ∧ Tabs T H ∧ loopX b F (pairsL xs) ρ c P ∧
  ∀ H1, Tabs T H1 → ExtN H H1 → ∀ o c', P o c' → OutX p H1 B B H1 E o c'
section
variable {X : Cx}
theorem xs_forMade {T : List (Addr × Str)} {xs : List (Str × LF)} {p : Addr} {k : Nat} {y : Str} {tg : Expr} {body : List Stmt} {p2 p3 pos : Pos} {is : List Nat} {b : D → Rho → Option Rho} {F : TSt} (G : FnX X k y (spMade T xs)) (hr : Room k X.A) (hgl : Gl X y)
    (hp : PassesOwn (model X.prog X.w) X.A X.env X.xe) (hc : X.calm = true) (hg : QG X tg is b) (hb : XSs X p body F) (hdb : (y == ("__debug__" : Str)) = false := by decide)
    (hs : ∀ x, foldedSetIterable (.Call (.Name y p2) [] [] p3) X.env x = pure x := by intro _; rfl) : PS X (.For tg (.Call (.Name y p2) [] [] p3) body [] pos) (tForMade T xs p b F) := by
  obtain ⟨f, fd, ps, g1, g2, g3, g4⟩ := G.ex
  refine (ps_for hp hc (pi_both (pe_call0 g2 hr hgl g1 g3 g4 .nil pass0 hdb)) hg hb hs).imp fun E σ H ⟨B, ρ, c, P, hpB, S, q, tab, w, kk⟩ => ?_
  refine ⟨rfl, B, tab, S.muts, S.muts.nt, fun a us H1 t1 e1 n1 h1 r1 => .inl ⟨a, rfl, ⟨us, SqL.of h1⟩, ?_⟩⟩
  have k := kk H1 t1 e1
  have S1 : SimP p H1 B B H1 σ ρ := ⟨hpB, H1, fun _ _ => rfl, S.extN e1⟩
  have q1 : PotAt H1 p c := by
    obtain ⟨i, j, l, z, y⟩ := q
    exact ⟨i, j, l, e1 p _ z (fun ps z => by cases z), y⟩
  have naB : a ∉ B := fun z => by
    obtain ⟨o, g, _⟩ := S.muts a z
    rw [n1] at g; cases g
  have W := wk_list (K := X.K) (r1.cut (A' := B) fun b hb => .inl (List.mem_cons_of_mem _ hb)) (LstS.of h1) naB
  obtain ⟨n, G', Y, wk, hn, hG, hY⟩ := W.ex
  refine for_it wk (fun i σ' H' => ∃ A' ρ' ci, Step B H1 A' H' ∧ SimP p H1 B A' H' σ' ρ' ∧ PotAt H' p ci ∧ loopX b F ((pairsL xs).drop i) ρ' ci P) ⟨B, ρ, c, Step.refl _ _, S1, q1, by rw [List.drop_zero]; exact w⟩ (fun i σ' H' _ ⟨A', ρ', ci, st, _⟩ => hG H' st.1) ?_ ?_
  · rintro i x σ' H' H2 hi ⟨A', ρ', ci, st, S', pc, el⟩ y
    obtain ⟨s2, d, d1, d2⟩ := hY A' i H' x H2 st.2 S'.muts st.1 hi y
    have hx : (pairsL xs).drop i = d :: (pairsL xs).drop (i + 1) := by
      obtain ⟨hlt, e⟩ := List.getElem?_eq_some_iff.mp d1
      rw [List.drop_eq_getElem_cons hlt, e]
    rw [hx, loopX] at el
    obtain ⟨ρ1, g1, el⟩ := el
    obtain ⟨hpB, H3, e3, S3⟩ := S'
    refine ⟨H3, B, A', ρ', d, ρ1, S3.ext s2, d2, g1, fun σ1 l1 f1 S1 => ?_⟩
    refine ⟨H1, B, A', ρ1, ci, _, ⟨hpB, H3, e3, S1⟩, pc.ext s2, el, fun o1 c2 w2 => ?_⟩
    have st2 : Step B H1 A' H2 := st.trans (Step.of s2)
    cases o1 with
    | nx ρ2 => exact fun A3 σ3 H4 t S3 q3 => ⟨A3, ρ2, c2, st2.trans t, S3, q3, w2⟩
    | ct ρ2 => exact fun A3 σ3 H4 t S3 q3 => ⟨A3, ρ2, c2, st2.trans t, S3, q3, w2⟩
    | bk ρ2 => exact fun A3 σ3 H4 t S3 q3 => k _ c2 w2 A3 σ3 H4 (st2.trans t) S3 q3
    | ret d => exact k _ c2 w2
  · rintro σ' H' ⟨A', ρ', ci, st, S', pc, el⟩
    have : (pairsL xs).drop n = [] := by rw [hn]; exact List.drop_length
    rw [this] at el
    exact k _ ci el A' σ' H' st S' pc
end
end LY
set_option Elab.async false
set_option linter.all false
set_option maxRecDepth 100000
set_option maxHeartbeats 1000000
/-! LX17: a def that walks such a list, then goes on with its pot -/
namespace LY
open PySem PySem.Spec PyProof.Rows L2 PySem.Calls LamX NdefX
/-- all but p and the tables stays -/
def ExtNP (p : Addr) (H H' : Hp) : Prop := SameN [p] H H'
def seqMade (G : TSt) (P : Out → Nat → Prop) : Out → Nat → Prop := fun o c1 => match o with
  | .nx ρ1 => G ρ1 c1 P
  | .ret d => P (.ret d) c1
  | _ => False
def tRight (T : List (Addr × Str)) (xs : List (Str × LF)) (p : Addr) (b : D → Rho → Option Rho) (F G : TSt) : TS := fun E σ H => ∃ B ρ c P, p ∈ B ∧ Sim H B B H σ ρ ∧ PotAt H p c ∧ Tabs T H ∧ loopX b F (pairsL xs) ρ c (seqMade G P) ∧
  ∀ H1, Tabs T H1 → ExtN H H1 → ∀ o c', P o c' → OutX p H1 B B H1 E o c'
section
variable {X : Cx}
theorem xss_right {T : List (Addr × Str)} {xs : List (Str × LF)} {p : Addr} {b : D → Rho → Option Rho} {F G : TSt} {st : Stmt} {rest : List Stmt} (h1 : PS X st (tForMade T xs p b F)) (h2 : XSs X p rest G) : PSs X (st :: rest) (tRight T xs p b F G) :=
  (pss_cons h1 h2).imp fun E σ H ⟨B, ρ, c, P, hpB, S, q, tab, w, kk⟩ => by
    refine ⟨B, ρ, c, _, hpB, S, q, tab, w, fun H1 t1 e1 o c' po => ?_⟩
    cases o with
    | nx ρ1 => exact fun A' σ' H' st S' q' => ⟨H1, B, A', ρ1, c', P, S', q', po, fun o c2 po => (kk H1 t1 e1 o c2 po).step st⟩
    | ret d => exact kk H1 t1 e1 (.ret d) c' po
    | bk _ => exact po.elim
    | ct _ => exact po.elim
end
theorem Tabs.pot {T : List (Addr × Str)} {H H' : Hp} {p : Addr} {c : Nat} (h : Tabs T H) (s : SmP p H H') (q : PotAt H p c) : Tabs T H' := fun x hx => by
  obtain ⟨i, j, l, z, _⟩ := q
  obtain ⟨ps, a1, a2, a3⟩ := h x hx
  refine ⟨ps, s _ _ (fun w => by rw [List.mem_singleton.mp w, z] at a1; cases a1) a1, a2, fun pos cv hc => ?_⟩
  obtain ⟨c0, e1, e2⟩ := a3 pos cv hc
  exact ⟨c0, e1, s _ _ (fun w => by rw [List.mem_singleton.mp w, z] at e2; unfold CodeO at e2; cases e2) e2⟩
/-- its promise: truth values -/
def spR (T : List (Addr × Str)) (R : Addr → Nat → (Bool → Nat → Prop) → Prop) : Sp := fun vs H Q _ => ∃ p A c P, vs = [.ref p] ∧ p ∈ A ∧ PotAt H p c ∧ MutA A H ∧ Tabs T H ∧ R p c P ∧ ∀ b c' H', P b c' → Tabs T H' → ExtNP p H H' → PotAt H' p c' → Q (.bl b) H'
theorem fn_right {CX : CXT} {P : Program} {w : World} {K : PySem.W.Frag} {mg : Str → Option Value} {base : Heap} {x qual : Str} {params : Arguments} {body : List Stmt} {scope : Scope} {dvs : List V} {kws : List (Str × V)} {f : Addr} {fd : FuncData} {N : List Str} {y : Str} {k : Nat} {T : List (Addr × Str)} {xs : List (Str × LF)} {b : D → Rho → Option Rho} {F G : Addr → TSt}
    (Fd : FunD K x qual params body scope dvs kws f fd) (S : FnScope N [y] scope)
    (hb : ∀ (p : Addr) (cdv : Value) (A : Around) (outer : List Env) (s : Shared) (H : Hp) (E : XK), Room k (A.deeper (envOfC qual scope s.heap.objs.size f cdv)) → (A.deeper (envOfC qual scope s.heap.objs.size f cdv)).guards = some [] →
      PSs (cxOf CX P w K mg base N qual scope f cdv A outer s H E).nox body (tRight T xs p b (F p) (G p))) :
    FnOkG P w K mg base CX (k + 1) f fd [y] (spR T fun p c Q => loopX b (F p) (pairsL xs) (rho0 N.length [.raw (.ref p)]) c (seqMade (G p) fun o c' => ∃ t, outD o = some (.bl t) ∧ Q t c')) := by
  refine FunD.okG Fd S (fun vs H Q E ⟨p, A, c, P, e, _⟩ => by rw [e]; rfl) fun cdv A outer s H vs Q E hr hg ⟨p, A', c, PP, e, hp, q, m, tab, w, kk⟩ => ?_
  subst e
  refine ⟨_, (hb p cdv A outer s H E hr hg).nox, A', rho0 N.length [.raw (.ref p)], c, _, hp, sim0 N m ⟨.ref p, [], rfl, rfl, rfl⟩, q, tab, w, fun H1 t1 e1 o c' ⟨t, e2, pd⟩ => ?_⟩
  have q1 : PotAt H1 p c := by
    obtain ⟨i, j, l, z, y⟩ := q
    exact ⟨i, j, l, e1 p _ z (fun ps z => by cases z), y⟩
  have xx : ∀ H', SmP p H1 H' → ExtNP p H H' := fun H' s a o n e t => s a o n (e1 a o e t)
  cases o with
  | nx ρ => cases e2
  | ret d2 =>
    cases e2
    exact fun v H2 s2 q2 r2 => by
      rw [show v = .bl t from r2]
      exact kk t c' H2 pd (Tabs.pot t1 s2 q1) (xx H2 s2) q2
  | bk _ => cases e2
  | ct _ => cases e2
end LY
set_option Elab.async false
set_option linter.all false
set_option maxRecDepth 100000
set_option maxHeartbeats 1000000
/-! LX18: C(e), e draws; the facts of the __init__ in one place -/
namespace LY
open PySem PySem.Spec PyProof.Rows L2 PySem.Calls LamX NdefX
structure ExI (P : Program) (w : World) (K : PySem.W.Frag) (mg : Str → Option Value) (base : Heap) (nx : List Str) (n0 : Str) (cx : Str → Addr) : Prop where
  ex : ∃ (fI : Addr) (fd : FuncData), (∀ C ∈ allX nx cx, PySem.W.findIn K (.ref C) "__init__" = some (some (.ref fI))) ∧ PySem.W.typeIn K (.ref fI) = some (.type "function") ∧ FnOk P w K mg base L2.CX0 1 fI fd (["self", "value"] : List Str) (spI K (cx n0)) ∧ Binds K fd (["self", "value"] : List Str) []
section
variable {X : Cx} {nx : List Str} {n0 : Str} {cx : Str → Addr}
theorem q_mkE {n : Str} {p pos : Pos} {e : Expr} {g : Den} (Xi : ExI X.prog X.w X.K X.mg X.base nx n0 cx) (Xc : ExX X.K X.mg X.base nx n0 cx) (hn : n ∈ nx) (hr : Room 2 X.A) (hg : Gl X n) (ha : QE X e g)
    (hdb : (n == ("__debug__" : Str)) = false := by decide) (he : starEach [e] X.env = (false, eval e X.env) :: starEach [] X.env := by rfl) : QE X (.Call (.Name n p) [e] [] pos) (d1 (fMkX (cx n)) g) := by
  obtain ⟨fI, fd, h1, h2, h3, h4⟩ := Xi.ex
  exact q_mkX (Xc.c _ (mem_x cx hn)) (h1 _ (mem_x cx hn)) h2 h3 hr h4 hg (Xc.g n hn) ha hdb he
theorem x_mkE {n : Str} {p pos : Pos} {e : Expr} {pt : Addr} {g : TDen} (Xi : ExI X.prog X.w X.K X.mg X.base nx n0 cx) (Xc : ExX X.K X.mg X.base nx n0 cx) (hn : n ∈ nx) (hr : Room 2 X.A) (hg : Gl X n) (ha : XE X pt e g)
    (hdb : (n == ("__debug__" : Str)) = false := by decide) (he : starEach [e] X.env = (false, eval e X.env) :: starEach [] X.env := by rfl) : XE X pt (.Call (.Name n p) [e] [] pos) (x1 (fMkX (cx n)) g) := by
  obtain ⟨fI, fd, h1, h2, h3, h4⟩ := Xi.ex
  refine (pe_mkX (Xc.c _ (mem_x cx hn)) (h1 _ (mem_x cx hn)) h2 h3 hr h4 hg (Xc.g n hn) (xl_cons ha xl_nil he) hdb he).imp fun σ H Q ⟨H0, B, A, ρ, c, P, S, qq, w, k⟩ => ?_
  refine ⟨H0, B, A, ρ, c, fun ds c1 => ∃ x d, ds = [x] ∧ fMkX (cx n) x = some d ∧ P d c1, S, qq, ?_, fun ds c1 vs H1 w1 s1 q1 r1 => ?_⟩
  · show g ρ c fun x c1 => ∃ y d, [x] = [y] ∧ fMkX (cx n) y = some d ∧ P d c1
    have e : (fun x c1 => ∃ d, fMkX (cx n) x = some d ∧ P d c1) = fun x c1 => ∃ y d, [x] = [y] ∧ fMkX (cx n) y = some d ∧ P d c1 := by
      funext x c1
      refine propext ⟨fun ⟨d, a, b⟩ => ⟨x, d, rfl, a, b⟩, fun ⟨y, d, e, a, b⟩ => ⟨d, ?_, b⟩⟩
      cases e; exact a
    rw [← e]; exact w
  · obtain ⟨x, d, rfl, e, pd⟩ := w1
    cases e
    obtain ⟨v, rr, rfl, r2, r3⟩ := r1
    refine ⟨v, by rw [show rr = [] from r3], fun a dd na nd ne => ?_⟩
    have m := (S.step s1 q1).muts
    have na' : upd H1 dd (exd dd [("value", v)]) a = none := by rw [upd_ne (Ne.symm ne)]; exact na
    have s2 : Sm H1 (upd (upd H1 dd (exd dd [("value", v)])) a (exo a (cx n) (some dd))) := (Sm.new nd).trans (Sm.new na')
    exact k _ c1 (.ref a) _ pd (s1.trans (s2.p pt)) (q1.ext s2) ⟨a, dd, [("value", v)], rfl, m.new na, m.new nd, upd_same, by rw [upd_ne ne, upd_same], v, [], rfl, r2.ext s2.x, rfl⟩
end
end LY
set_option Elab.async false
set_option linter.all false
set_option maxRecDepth 100000
set_option maxHeartbeats 1000000
/-! LX19: quiet defs that hand back a new list; the law's turn -/
namespace LY
open PySem PySem.Spec PyProof.Rows L2 PySem.Calls LamX NdefX
abbrev DenL := Rho → Option (List D)
def tSF (F : DenL) : TS := fun E σ H => ∃ H0 B A ρ es, Sim H0 B A H σ ρ ∧ F ρ = some es ∧ ∀ a vs H', Sm H0 H' → H0 a = none → H' a = some (.lst vs) → RpL (a :: B) H' es vs → E.rt (.ref a) H'
abbrev QSF (X : Cx) (st : List Stmt) (F : DenL) : Prop := PSs X st (tSF F)
def dSeqL (F : Rho → Option Out) (G : DenL) : DenL := fun ρ => (F ρ).bind fun o => match o with
  | .nx ρ1 => G ρ1
  | _ => none
section
variable {X : Cx}
theorem qsf_ret {e : Expr} {g : DenL} {pos : Pos} (he : QF X e g) : QSF X [.Return (some e) pos] g :=
  (pss_one (ps_ret he)).imp fun E σ H ⟨H0, B, A, ρ, es, S, e1, k⟩ =>
    ⟨H0, B, A, ρ, es, S, e1, fun a vs H' s n h1 r => k a vs H' (S.same.trans s) (S.same.none n) h1 (r.cut fun b hb => by
      rcases List.mem_cons.mp hb with rfl | hb
      · exact .inl List.mem_cons_self
      · exact .inl (List.mem_cons_of_mem _ (S.sub b hb)))⟩
theorem qsf_cons {st : Stmt} {rest : List Stmt} {F : Rho → Option Out} {G : DenL} (h1 : QS X st F) (h2 : QSF X rest G) : QSF X (st :: rest) (dSeqL F G) :=
  (pss_cons h1 h2).imp fun E σ H ⟨H0, B, A, ρ, es, S, q, k⟩ => by
    obtain ⟨o, e1, e2⟩ := bind1 q
    refine ⟨H0, B, A, ρ, o, S, e1, ?_⟩
    cases o with
    | nx ρ1 => exact fun A' σ' H' t S' => ⟨H0, B, A', ρ1, es, S', e2, k⟩
    | ret _ => cases e2
    | bk _ => cases e2
    | ct _ => cases e2
end
theorem fn_qF {CX : CXT} {P : Program} {w : World} {K : PySem.W.Frag} {mg : Str → Option Value} {base : Heap} {x qual : Str} {params : Arguments} {body : List Stmt} {scope : Scope} {dvs : List V} {kws : List (Str × V)} {f : Addr} {fd : FuncData} {N ps : List Str} {k : Nat} {F : List D → Option (List D)} {G : DenL}
    (Fd : FunD K x qual params body scope dvs kws f fd) (S : FnScope N ps scope) (hF : ∀ ds d, F ds = some d → ds.length = ps.length ∧ G (rho0 N.length ds) = some d)
    (hb : ∀ (cdv : Value) (A : Around) (outer : List Env) (s : Shared) (H : Hp) (E : XK), Room k (A.deeper (envOfC qual scope s.heap.objs.size f cdv)) → QSF (cxOf CX P w K mg base N qual scope f cdv A outer s H E).nox body G) : FnOk P w K mg base CX (k + 1) f fd ps (spQF F) := by
  refine Fd.ok S (fun vs H Q E h => ?_) (fun cdv A outer s H vs Q E hr h => ⟨_, (hb cdv A outer s H E hr).nox, ?_⟩)
  · obtain ⟨A, ds, d, m, r, e, _⟩ := h
    rw [r.length, (hF ds d e).1]
  · obtain ⟨A', ds, d, m, r, e, q⟩ := h
    exact ⟨H, A', A', rho0 N.length ds, d, sim0 N m r, (hF ds d e).2, fun a us H2 s2 n0 h1 r2 => q a us H2 s2 n0 h1 r2⟩
theorem hFL_of (n m : Nat) {ps N : List Str} {G : DenL} (h1 : ps.length = n) (h2 : N.length = m) : ∀ (ds : List D) (d : List D), (if ds.length = n then G (rho0 m ds) else none) = some d → ds.length = ps.length ∧ G (rho0 N.length ds) = some d := by
  intro ds d h
  split at h
  · rename_i hl
    exact ⟨by rw [hl, h1], by rw [h2]; exact h⟩
  · cases h
/-- what a new pot holds -/
def PotD (c : Nat) (es : List D) : Prop := ∃ i j k : Int, es = [.int i, .int j, .int k] ∧ 0 ≤ j ∧ j < 2 ^ 61 ∧ 0 ≤ k ∧ k + c ≤ 1000000
theorem PotD.at {c : Nat} {es : List D} (h : PotD c es) {A : List Addr} {H : Hp} {p : Addr} {us : List V} (e : H p = some (.lst us)) (r : RpL A H es us) : PotAt H p c := by
  obtain ⟨i, j, k, rfl, h1, h2, h3, h4⟩ := h
  obtain ⟨v1, r1, rfl, a1, v2, r2, rfl, a2, v3, r3, rfl, a3, a4⟩ := r
  rw [show r3 = [] from a4, show v1 = .int i from a1, show v2 = .int j from a2, show v3 = .int k from a3] at e
  exact ⟨i, j, k, e, h1, h2, h3, h4⟩
theorem MutA.cons {A : List Addr} {H : Hp} {p : Addr} {us : List V} (m : MutA A H) (e : H p = some (.lst us)) : MutA (p :: A) H := fun a ha => by
  rcases List.mem_cons.mp ha with rfl | ha
  · exact ⟨_, e, rfl⟩
  · exact m a ha
/-- f(g(script, place)): f a def that draws from the new pot that g gives; it is true -/
def tRt (T : List (Addr × Str)) (g : Rho → Option (List D)) (FP : List D → Option (List D)) (R : Addr → Nat → (Bool → Nat → Prop) → Prop) : TE := fun σ H Q => ∃ B ρ es c, Sim H B B H σ ρ ∧ (g ρ).bind FP = some es ∧ PotD c es ∧ Tabs T H ∧ (∀ p, R p c fun b _ => b = true) ∧ ∀ H', Tabs T H' → ExtN H H' → Q (.bl true) H'
section
variable {X : Cx}
theorem pe_rt {T : List (Addr × Str)} {k k2 : Nat} {x y : Str} {p1 p2 p3 p4 : Pos} {e : Expr} {es : List Expr} {g : Rho → Option (List D)} {FP : List D → Option (List D)} {R : Addr → Nat → (Bool → Nat → Prop) → Prop}
    (G : FnGX X k x (spR T R)) (G2 : FnX X k2 y (spQF FP)) (hr : Room k X.A) (hr2 : Room k2 X.A) (hgd : X.A.guards = some []) (hgx : Gl X x) (hgy : Gl X y) (ha : QL X (e :: es) g)
    (hdb : (x == ("__debug__" : Str)) = false := by decide) (hdb2 : (y == ("__debug__" : Str)) = false := by decide)
    (he : starEach (e :: es) X.env = (false, eval e X.env) :: starEach es X.env := by rfl) (hpl : (backTo p3 (starEach es X.env)).any (·.1) = false := by rfl)
    (he2 : starEach [.Call (.Name y p2) (e :: es) [] p3] X.env = (false, eval (.Call (.Name y p2) (e :: es) [] p3) X.env) :: starEach [] X.env := by rfl) (hpl2 : (backTo p4 (starEach [] X.env)).any (·.1) = false := by rfl) :
    PE X (.Call (.Name x p1) [.Call (.Name y p2) (e :: es) [] p3] [] p4) (tRt T g FP R) := by
  obtain ⟨f, fd, ps, h1, h2, h3, h4⟩ := G.ex
  obtain ⟨f2, fd2, ps2, i1, i2, i3, i4⟩ := G2.ex
  refine (pe_callG h2 hr hgd hgx h1 h3 h4 .nil pass0 (pa_cons (pe_call i2 hr2 hgy i1 i3 i4 .nil pass0 ha hdb2 he hpl) pa_nil he2) hdb he2 hpl2).imp fun σ H Q ⟨B, ρ, es, c, S, q, pd, tab, hR, k⟩ => ?_
  obtain ⟨ds, e1, e2⟩ := bind1 q
  refine ⟨H, B, B, ρ, ds, S, e1, fun vs H1 s1 r1 => ?_⟩
  refine ⟨B, ds, es, S.muts.ext s1, by rw [List.append_nil]; exact r1, e2, fun p us H2 s2 n2 g2 r2 => ?_⟩
  refine ⟨p, p :: B, c, _, rfl, List.mem_cons_self, pd.at g2 r2, ((S.muts.ext s1).ext s2).cons g2, tab.ext fun b o z => s2 _ _ (s1 _ _ z), hR p, fun b c' H' eb T' xx q' => ?_⟩
  subst eb
  refine k H' T' fun a o ea nt => xx a o ?_ (s2 _ _ (s1 _ _ ea)) nt
  intro z
  rw [List.mem_singleton.mp z] at ea
  rw [s1 _ _ ea] at n2; cases n2
/-- the law: for place in cells: if not f(g(script, place)): return False -/
def tLaw0 (T : List (Addr × Str)) (gc : Den) (g : Rho → Option (List D)) (FP : List D → Option (List D)) (R : Addr → Nat → (Bool → Nat → Prop) → Prop) : TS := fun E σ H => ∃ B ρ c ds, Sim H B B H σ ρ ∧ Tabs T H ∧ gc ρ = some (.lst ds) ∧
  (∀ d ∈ ds, ∀ ρ', ρ'.length = ρ.length → ρ'[0]? = ρ[0]? → ρ'[1]? = some (some (.r d)) → ∃ es, (g ρ').bind FP = some es ∧ PotD c es) ∧ 2 ≤ ρ.length ∧ (∀ p, R p c fun b _ => b = true) ∧ ∀ σ' H', E.nx σ' H'
theorem ps_law0 {T : List (Addr × Str)} {k k2 : Nat} {x y z : Str} {p1 p2 p3 p4 p5 p6 p7 p8 p9 p10 : Pos} {e it : Expr} {es : List Expr} {kb : Nat} {g : Rho → Option (List D)} {gc : Den} {FP : List D → Option (List D)} {R : Addr → Nat → (Bool → Nat → Prop) → Prop}
    (hN : X.N.Nodup) (hz : X.N[1]? = some z) (hzl : Loc X.env.scope z) (hi : QE X it gc) (hp : PassesOwn (model X.prog X.w) X.A X.env X.xe) (hc : X.calm = true)
    (G : FnGX X k x (spR T R)) (G2 : FnX X k2 y (spQF FP)) (hr : Room k X.A) (hr2 : Room k2 X.A) (hgd : X.A.guards = some []) (hgx : Gl X x) (hgy : Gl X y) (ha : QL X (e :: es) g)
    (hdb : (x == ("__debug__" : Str)) = false := by decide) (hdb2 : (y == ("__debug__" : Str)) = false := by decide)
    (he : starEach (e :: es) X.env = (false, eval e X.env) :: starEach es X.env := by rfl) (hpl : (backTo p3 (starEach es X.env)).any (·.1) = false := by rfl)
    (he2 : starEach [.Call (.Name y p2) (e :: es) [] p3] X.env = (false, eval (.Call (.Name y p2) (e :: es) [] p3) X.env) :: starEach [] X.env := by rfl) (hpl2 : (backTo p4 (starEach [] X.env)).any (·.1) = false := by rfl)
    (hs : ∀ x, foldedSetIterable it X.env x = pure x := by intro _; rfl) (hf : X.fn z = true ∨ X.env.scope.names.lookup z = some .local := by first | exact .inl rfl | exact .inr rfl | assumption) :
    PS X (.For (.Name z p5) it [.If (.UnaryOp .Not (.Call (.Name x p1) [.Call (.Name y p2) (e :: es) [] p3] [] p4) p6) [.Return (some (.Constant (.bool false) kb p7)) p8] [] p9] [] p10) (tLaw0 T gc g FP R) :=
  (ps_for hp hc (pi_both hi) (qg_name (i := 1) hN hz hzl hf) (pss_one (ps_if (pt_not (pt_val (pe_rt G G2 hr hr2 hgd hgx hgy ha hdb hdb2 he hpl he2 hpl2))) (pss_one (ps_ret pe_bl)) pss_nil)) hs).imp fun E σ H ⟨B, ρ, c, ds, S, tab, e1, hd, hlen, hR, k⟩ => by
    refine ⟨H, B, B, ρ, .lst ds, S, e1, fun v H1 s1 r1 => .inl ?_⟩
    obtain ⟨a, vs, rfl, na, ha, rr⟩ := r1
    have hsq : SqL X.K H1 a vs := ha.sq
    refine ⟨a, rfl, ⟨vs, hsq⟩, ?_⟩
    refine for_list (xs := vs) (fun i σ' H' => ∃ ρ', Sim H' B B H' σ' ρ' ∧ Tabs T H' ∧ ExtN H1 H' ∧ ρ'.length = ρ.length ∧ ρ'[0]? = ρ[0]?) ⟨ρ, S.extN (ExtN.of s1), tab.ext s1, ExtN.refl _, rfl, rfl⟩ (fun i σ' H' _ ⟨ρ', _, _, xx, _⟩ => ?_) (fun i x σ' H' hx ⟨ρ', S', T', xx, l1, z1⟩ => ?_) (fun σ' H' _ => k σ' H')
    · rcases ha with ha | ⟨o, ha⟩
      · exact .inl (.inl (xx _ _ ha fun ps z => by cases z))
      · exact .inl (.inr ⟨o, xx _ _ ha fun ps z => by cases z⟩)
    · obtain ⟨d, d1, d2⟩ := rr.getv hx
      have d2' : Rp B H' d x := d2.extN fun b o _ eb nt => xx b o eb nt
      refine ⟨H', B, B, ρ', d, _, S', d2', rfl, fun σ1 hl1 hl2 S1 => ?_⟩
      obtain ⟨es', q1, q2⟩ := hd d (List.mem_of_getElem? d1) (ρ'.set 1 (some (.r d))) (by rw [List.length_set]; exact l1) (by rw [List.getElem?_set_ne (by decide)]; exact z1) (List.getElem?_set_self (by omega))
      refine ⟨B, _, es', c, S1, q1, q2, T', hR, fun H2 T2 x2 => ⟨true, rfl, ?_⟩⟩
      refine iteF ?_
      exact ⟨_, S1.extN x2, T2, xx.trans x2, by rw [List.length_set]; exact l1, by rw [List.getElem?_set_ne (by decide)]; exact z1⟩
end
end LY
set_option Elab.async false
set_option linter.all false
set_option maxRecDepth 100000
set_option maxHeartbeats 2000000
/-! LX20: a law's end whose def wants no guard to stand; the script is tracked -/
namespace LY
open PySem PySem.Spec PyProof.Rows L2 PySem.Calls LamX NdefX
/-- at the law's call: the script's list, and the empty tables -/
def hp0 (a : Addr) (o : Obj) (vs : List V) (ts : List Addr) : Hp := fun b => if b = a then some (.frz o (.lst vs)) else if b ∈ ts then some (.tbl #[]) else none
section
variable {a : Addr} {o : Obj} {vs : List V} {ts : List Addr}
theorem hp0_a : hp0 a o vs ts a = some (.frz o (.lst vs)) := if_pos rfl
theorem hp0_t {b : Addr} (n : b ≠ a) (h : b ∈ ts) : hp0 a o vs ts b = some (.tbl #[]) := (if_neg n).trans (if_pos h)
theorem hp0_n {b : Addr} (n : b ≠ a) (h : b ∉ ts) : hp0 a o vs ts b = none := (if_neg n).trans (if_neg h)
theorem hp0_cases {b : Addr} {u : HO} (h : hp0 a o vs ts b = some u) : (b = a ∧ u = .frz o (.lst vs)) ∨ (b ≠ a ∧ b ∈ ts ∧ u = .tbl #[]) := by
  by_cases n : b = a
  · left; rw [n, hp0_a] at h; exact ⟨n, (Option.some.inj h).symm⟩
  · by_cases m : b ∈ ts
    · right; rw [hp0_t n m] at h; exact ⟨n, m, (Option.some.inj h).symm⟩
    · rw [hp0_n n m] at h; cases h
end
theorem noLst_no {K : PySem.W.Frag} {h : Heap} (hK : noLst K = true) (KX : K.In h) {a : Addr} {o : Obj} (e : h.get? a = some o) (hc : o.cls = .type "list") : K.lookup a = none := by
  cases q : K.lookup a with
  | none => rfl
  | some u =>
    have e2 := KX a u q
    rw [e] at e2
    cases e2
    have := List.all_eq_true.mp hK _ (He.lookup_mem q)
    simp only [hc] at this
    cases this
theorem law_callG {P : Program} {w : World} {K : PySem.W.Frag} {mg mb : Str → Option Value} {k : Nat} {fa a : Addr} {cs : List (Addr × Addr)} {fd : FuncData} {x : Str} {sp : Sp} {s₁ : Shared} {us : List Value} {ns : List Int}
    (KX : K.In s₁.heap) (nK : noLst K = true) (G0 : s₁.heap.Ns mainGlobals mg) (B0 : s₁.heap.Ns builtinsNs mb) (B1 : ∀ x : Str, x ≠ "__name__" → mb x = bootBuiltins x) (L0 : s₁.heap.NoLimit) (g0 : s₁.gens = #[])
    (T0 : ∀ t ∈ cs, s₁.heap.get? t.2 = some tabO ∧ K.lookup t.2 = none ∧ PySem.W.CodeHd s₁.heap t.1 t.2)
    (M0 : ∃ (bm : Addr) (ob : Obj), mg "__builtins__" = some (.ref bm) ∧ bm ≠ builtinsNs ∧ s₁.heap.get? bm = some ob ∧ ob.cls = .type "module" ∧ ob.dict = some builtinsNs ∧ ob.data = .plain)
    (S0 : s₁.heap.get? a = some { cls := .type "list", data := .seq us.toArray }) (I0 : IntsAre us ns) (l0 : ns.length ≤ sizeLine) (hr : Room k callerA)
    (F : ∀ base : Heap, K.In base → base.Ns mainGlobals mg → (∀ t ∈ cs, TabB base mg t.1 t.2) → FnOkG P w K mg base L2.CX0 k fa fd [x] sp) (hb : ∀ (s : Shared) (u : Value), BindsTo s fd ⟨[u], []⟩ [(x, u)])
    (hsp : ∀ H : Hp, (∀ t ∈ cs, H t.2 = some (.tbl #[])) → LstS H a (ns.map V.int) → sp [.ref a] H (fun v _ => v = .bl true) fun _ _ _ => False) :
    codeAny (model P w) callerA (.call (.ref fa) ⟨[.ref a], []⟩) (fun r s' => r = .ok (.ret (.bool true)) ∧ PySem.OldK s₁.heap s'.heap ∧ s'.os = s₁.os ∧ AllBare s'.gens) s₁ := by
  have rv := vals_ints I0
  have nA := noLst_no nK KX S0 rfl
  generalize hts : cs.map (·.2) = ts
  have mts : ∀ t ∈ cs, t.2 ∈ ts := fun t ht => hts ▸ List.mem_map_of_mem (f := (·.2)) ht
  have tts : ∀ b ∈ ts, s₁.heap.get? b = some tabO ∧ K.lookup b = none := fun b hb => by
    rw [← hts] at hb
    obtain ⟨t, h1, h2⟩ := List.mem_map.mp hb
    rw [← h2]; exact ⟨(T0 t h1).1, (T0 t h1).2.1⟩
  have ne : ∀ b ∈ ts, b ≠ a := fun b hb z => by
    have q := (tts b hb).1
    rw [z, S0] at q
    cases q
  have H1 : ∀ b u, hp0 a { cls := .type "list", data := .seq us.toArray } (ns.map V.int) ts b = some u → ∃ ob, s₁.heap.get? b = some ob ∧ K.lookup b = none ∧ (ob.data = .fields #[] ∨ ∃ q n, ob.data = .seq q n) := fun b u e => by
    rcases hp0_cases e with ⟨rfl, _⟩ | ⟨_, hm, _⟩
    · exact ⟨_, S0, nA, .inr ⟨_, _, rfl⟩⟩
    · exact ⟨_, (tts b hm).1, (tts b hm).2, .inl rfl⟩
  generalize hH : hp0 a { cls := .type "list", data := .seq us.toArray } (ns.map V.int) ts = H at H1
  have Ha : H a = some (.frz { cls := .type "list", data := .seq us.toArray } (.lst (ns.map V.int))) := by rw [← hH]; exact hp0_a
  have Ht : ∀ b ∈ ts, H b = some (.tbl #[]) := fun b hb => by rw [← hH]; exact hp0_t (ne b hb) hb
  have Hn : ∀ b, b ≠ a → b ∉ ts → H b = none := fun b h1 h2 => by rw [← hH]; exact hp0_n h1 h2
  have Hc : ∀ b u, H b = some u → (b = a ∧ u = .frz { cls := .type "list", data := .seq us.toArray } (.lst (ns.map V.int))) ∨ (b ≠ a ∧ b ∈ ts ∧ u = .tbl #[]) := fun b u e => by rw [← hH] at e; exact hp0_cases e
  have free : ∀ {b : Addr} {ob : Obj}, s₁.heap.get? b = some ob → ob.data ≠ .fields #[] → (∀ q n, ob.data ≠ .seq q n) → H b = none := fun {b ob} e d1 d2 => by
    cases z : H b with
    | none => rfl
    | some u =>
      obtain ⟨o2, e2, _, d⟩ := H1 b u z
      rw [e] at e2; cases e2
      rcases d with d | ⟨q, n, d⟩
      · exact absurd d d1
      · exact absurd d (d2 q n)
  have stay : ∀ {b : Addr} {ob : Obj}, s₁.heap.get? b = some ob → ob.data ≠ .fields #[] → (∀ q n, ob.data ≠ .seq q n) → (hidT s₁.heap H).get? b = some ob := fun e d1 d2 => hidT_get e (free e d1 d2)
  have ns_ : ∀ {b : Addr} {m : Str → Option Value}, s₁.heap.Ns b m → (hidT s₁.heap H).Ns b m := fun {b m} h => by
    obtain ⟨ob, es, ep, e, d, r⟩ := h
    exact ⟨ob, es, ep, stay e (by rw [d]; exact fun z => by cases z) (by rw [d]; exact fun _ _ z => by cases z), d, r⟩
  have KB : K.In (hidT s₁.heap H) := fun b ob e => hidT_get (KX b ob e) (by
    cases z : H b with
    | none => rfl
    | some u =>
      obtain ⟨_, _, n, _⟩ := H1 b u z
      rw [n] at e; cases e)
  have ok : HOk P w H s₁.heap := fun b u z => by
    rcases Hc b u z with ⟨rfl, rfl⟩ | ⟨_, hm, rfl⟩
    · exact ⟨S0, by rw [List.length_map]; exact l0, us, _, rv, S0⟩
    · exact (tts b hm).1
  have TB : ∀ t ∈ cs, TabB (hidT s₁.heap H) mg t.1 t.2 := fun t ht => by
    obtain ⟨t1, t2, t3⟩ := T0 t ht
    refine ⟨?_, ?_, fun z => ?_⟩
    · obtain ⟨ob, qs, file, tf, flags, tg, inF, text, tt, e1, r1, r2, rest⟩ := t3
      refine ⟨ob, qs, file, tf, flags, tg, inF, text, tt, stay e1 (fun z => ?_) (fun _ _ z => ?_), r1, r2, rest⟩
      · rw [r2] at z
        cases z
        have := rest.1
        simp at this
      · rw [r2] at z; cases z
    · obtain ⟨bm, ob, b1, b2, b3, b4, b5, b6⟩ := M0
      refine ⟨bm, ob, b1, b2, fun z => ?_, fun z => ?_, stay b3 (by rw [b6]; exact fun z => by cases z) (by rw [b6]; exact fun _ _ z => by cases z), b4, b5, b6⟩
      · obtain ⟨o2, es, ep, e, d, _⟩ := G0
        rw [z, e] at b3; cases b3
        rw [d] at b6; cases b6
      · rw [z, t1] at b3; cases b3
        cases b6
    · obtain ⟨o2, es, ep, e, d, _⟩ := G0
      rw [z, t1] at e; cases e
      cases d
  have env : Env0 P w K mg (hidT s₁.heap H) callerA [] s₁ H :=
    { frames := rfl, mod := ⟨KB, ns_ G0, ⟨mb, ns_ B0, B1⟩, let ⟨mc, z1, z2⟩ := L0; ⟨mc, ns_ z1, z2⟩⟩, bs := fun _ _ e => of_hidT e, bsz := Nat.le_of_eq (hidT_size _ _), funs := trivial, frf := fun b z => absurd z List.not_mem_nil, hok := ok, bare := .of_eq g0 }
  have run := (F _ KB (ns_ G0) TB).run callerA [] s₁ H ⟨[.ref a], []⟩ [.ref a] [.ref a] _ _ hr rfl env (hb s₁ (.ref a)) (.cons rfl .nil) (hsp H (fun t ht => Ht _ (mts t ht)) (.inr ⟨_, Ha⟩))
  refine codeAny_mono run fun r s' h => ?_
  match r, h with
  | .error e, h => exact (show False from h).elim
  | .ok (.ret u), h =>
    obtain ⟨v, H', h1, h2, un, ok', r', q⟩ := h
    obtain rfl : v = V.bl true := q
    obtain rfl : u = Value.bool true := r'
    have kept : ∀ b ob, b ∉ ts → s₁.heap.get? b = some ob → s'.heap.get? b = some ob := fun b ob nb e => by
      by_cases hba : b = a
      · subst hba
        rw [S0] at e; cases e
        exact (ok' _ _ (un.frzs _ _ _ Ha)).1
      · exact un.keep b ob e (Hn b hba nb) (List.not_mem_nil) (List.not_mem_nil)
    have more : ∀ b ∈ ts, ∃ vs : Array Value, s'.heap.get? b = some { cls := .none, data := .fields vs } := fun b hb => by
      obtain ⟨m, z⟩ := un.tbls b #[] (Ht b hb)
      exact ⟨_, ok' b _ z⟩
    refine ⟨rfl, ⟨fun b ob e => ?_, fun b ob e => ?_⟩, h1, h2⟩
    · by_cases hb : b ∈ ts
      · obtain ⟨m, hm⟩ := more b hb
        have hb' := hb
        rw [← hts] at hb'
        obtain ⟨t, ht, rfl⟩ := List.mem_map.mp hb'
        obtain ⟨t1, _, t3⟩ := T0 t ht
        rw [t1] at e; cases e
        exact .inr (.inl ⟨(t3.tab t1).isCodeTable, rfl, #[], m, rfl, by rw [Array.empty_append]; exact hm⟩)
      · exact .inl (kept b ob hb e)
    · by_cases hb : b ∈ ts
      · obtain ⟨m, hm⟩ := more b hb
        exact ⟨_, hm⟩
      · exact ⟨ob, kept b ob hb e⟩
/-- what the head must tell of the law's def -/
structure LawG (l : PySem.W.OpenLaw) (w : World) (k n : Nat) (x : Str) (mg : Str → Option Value) (fa : Addr) (h : Heap) : Prop where
  ex : ∃ (K : PySem.W.Frag) (fd : FuncData) (cs : List (Addr × Addr)) (sp : Sp), K.In h ∧ noLst K = true ∧ (∀ t ∈ cs, h.get? t.2 = some tabO ∧ K.lookup t.2 = none ∧ PySem.W.CodeHd h t.1 t.2) ∧ (∀ (s : Shared) (u : Value), BindsTo s fd ⟨[u], []⟩ [(x, u)]) ∧
    (∀ (H : Hp) (a : Addr) (ns : List Int), ns.length ≤ n → (∀ z ∈ ns, Builtin.Int.intBits z ≤ 1048576) → (∀ t ∈ cs, H t.2 = some (.tbl #[])) → LstS H a (ns.map V.int) → sp [.ref a] H (fun v _ => v = .bl true) fun _ _ _ => False) ∧
    ∀ base : Heap, K.In base → base.Ns mainGlobals mg → (∀ t ∈ cs, TabB base mg t.1 t.2) → FnOkG l.prog w K mg base L2.CX0 k fa fd [x] sp
theorem walk_G {l : PySem.W.OpenLaw} {n k : Nat} {q : Program} {loose : List Str} {XP : (Str → Option Value) → Heap → Prop} {YP : World → Heap → Prop} {d : DefRec} {x : Str} (hn : l.most = some n) (hn2 : n ≤ sizeLine) (hdf : d.params.defaults = []) (hr : Room k callerA)
    (F : ∀ (w : World) (mg : Str → Option Value) (fa : Addr) (h : Heap), YP w h → h.Ns mainGlobals mg → mg d.name = some (.ref fa) → LawG l w k n x mg fa h) : PySem.W.WalkO q loose XP YP l.row.toRowW d [] (fun f vs => PySem.call f vs) :=
  Att.attach_callB hn hdf fun w s₀ s₁ mg mb fa o pm cd doc a vs ns G Y ho hd hcd hmg hobj hints hlen hbits hg => by
    obtain ⟨K, fd, cs, sp, KX, nK, T0, hb, hsp, hF⟩ := (F w mg fa _ Y G.T.g hmg).ex
    exact law_callG KX nK G.T.g G.T.b G.T.builtins G.T.nolimit hg T0 G.T.bmain hobj hints (Nat.le_trans hlen hn2) hr hF hb fun H hH hS => hsp H a ns hlen hbits hH hS
end LY
set_option Elab.async false
set_option linter.all false
set_option maxRecDepth 100000
set_option maxHeartbeats 1000000
/-! LX21: dicts that are data, walked by their keys -/
namespace LY
open PySem PySem.Spec PyProof.Rows L2 PySem.Calls LamX NdefX
/-- H' is H but for the dict at d, which is locked in one of them -/
structure Lk (d : Addr) (ws : List (Key × V)) (H H' : Hp) : Prop where
  h : Rd H d (.dK ws)
  h' : Rd H' d (.dK ws)
  o : ∀ a u, a ≠ d → H a = some u → H' a = some u
theorem Lk.rd {d : Addr} {ws : List (Key × V)} {H H' : Hp} (L : Lk d ws H H') {a : Addr} {u : HO} (h : Rd H a u) (hf : ∀ ob v, u ≠ .frz ob v) : Rd H' a u := by
  by_cases e : a = d
  · subst e
    have : u = .dK ws := by
      rcases L.h with z | ⟨oz, z⟩
      · rcases h with y | ⟨oy, y⟩
        · rw [z] at y; exact (Option.some.inj y).symm
        · rw [z] at y; cases y
      · rcases h with y | ⟨oy, y⟩
        · rw [z] at y; exact absurd (Option.some.inj y).symm (hf _ _)
        · rw [z] at y; cases y; rfl
    rw [this]; exact L.h'
  · rcases h with h | ⟨ob, h⟩
    · exact .inl (L.o _ _ e h)
    · exact .inr ⟨ob, L.o _ _ e h⟩
/-- no dict -/
def notDk : HO → Bool
  | .dK _ => false
  | .frz _ (.dK _) => false
  | _ => true
theorem Lk.at {d : Addr} {ws : List (Key × V)} {H H' : Hp} (L : Lk d ws H H') {a : Addr} {u : HO} (h : H a = some u) (n : notDk u = true) : H' a = some u := by
  refine L.o a u (fun e => ?_) h
  subst e
  rcases L.h with z | ⟨oz, z⟩
  · rw [h] at z; cases z; cases n
  · rw [h] at z; cases z; cases n
mutual
theorem Rp.lk {A : List Addr} {d : Addr} {ws : List (Key × V)} {H H' : Hp} (L : Lk d ws H H') : ∀ {x : D} {v : V}, Rp A H x v → Rp A H' x v
  | .non, _, h => h
  | .bl _, _, h => h
  | .int _, _, h => h
  | .str _, _, h => h
  | .raw _, _, h => h
  | .tup ds, v, h => by
    obtain ⟨a, vs, e, n, ⟨ob, r, ro⟩, q⟩ := h
    exact ⟨a, vs, e, n, ⟨ob, L.at r rfl, ro⟩, RpL.lk L q⟩
  | .lst ds, v, h => by
    obtain ⟨a, vs, e, n, r, q⟩ := h
    exact ⟨a, vs, e, n, L.rd r (fun _ _ z => by cases z), RpL.lk L q⟩
  | .dic kvs, v, h => by
    obtain ⟨a, vs, e, n, r, q⟩ := h
    exact ⟨a, vs, e, n, L.rd r (fun _ _ z => by cases z), RpK.lk L q⟩
  | .ins C fs, v, h => by
    obtain ⟨a, dx, vs, e, n, r, q⟩ := h
    exact ⟨a, dx, vs, e, n, L.at r rfl, RpF.lk L q⟩
  | .exc C fs, v, h => by
    obtain ⟨a, dx, vs, e, n, m, r, r2, q⟩ := h
    exact ⟨a, dx, vs, e, n, m, L.at r rfl, L.at r2 rfl, RpF.lk L q⟩
  | .clo Lf, v, h => by
    obtain ⟨a, c, e, n, m, r, r2⟩ := h
    exact ⟨a, c, e, n, m, L.at r rfl, L.at r2 rfl⟩
theorem RpL.lk {A : List Addr} {d : Addr} {ws : List (Key × V)} {H H' : Hp} (L : Lk d ws H H') : ∀ {ds : List D} {vs : List V}, RpL A H ds vs → RpL A H' ds vs
  | [], _, h => h
  | x :: ds, _, h => by
    obtain ⟨v, r, e, h1, h2⟩ := h
    exact ⟨v, r, e, Rp.lk L h1, RpL.lk L h2⟩
theorem RpK.lk {A : List Addr} {d : Addr} {ws : List (Key × V)} {H H' : Hp} (L : Lk d ws H H') : ∀ {ds : List (Key × D)} {vs : List (Key × V)}, RpK A H ds vs → RpK A H' ds vs
  | [], _, h => h
  | (k, x) :: ds, _, h => by
    obtain ⟨v, r, e, h1, h2⟩ := h
    exact ⟨v, r, e, Rp.lk L h1, RpK.lk L h2⟩
theorem RpF.lk {A : List Addr} {d : Addr} {ws : List (Key × V)} {H H' : Hp} (L : Lk d ws H H') : ∀ {ds : List (Str × D)} {vs : List (Str × V)}, RpF A H ds vs → RpF A H' ds vs
  | [], _, h => h
  | (k, x) :: ds, _, h => by
    obtain ⟨v, r, e, h1, h2⟩ := h
    exact ⟨v, r, e, Rp.lk L h1, RpF.lk L h2⟩
end
theorem Lk.up {d : Addr} {ws : List (Key × V)} {H : Hp} {od : Obj} (h : H d = some (.dK ws)) : Lk d ws H (upd H d (.frz od (.dK ws))) := ⟨.inl h, .inr ⟨od, upd_same⟩, fun a u n e => by rw [upd_ne n]; exact e⟩
theorem Lk.down {d : Addr} {ws : List (Key × V)} {H : Hp} {od : Obj} (h : H d = some (.frz od (.dK ws))) : Lk d ws H (upd H d (.dK ws)) := ⟨.inr ⟨od, h⟩, .inl upd_same, fun a u n e => by rw [upd_ne n]; exact e⟩
theorem Ow.lk {A : List Addr} {d : Addr} {ws : List (Key × V)} {H H' : Hp} (L : Lk d ws H H') {x : D} {a : Addr} (n : a ≠ d) (h : Ow A H x a) : Ow A H' x a := by
  cases x with
  | lst ds => obtain ⟨vs, e, q⟩ := h; exact ⟨vs, L.o _ _ n e, q.lk L⟩
  | dic kvs => obtain ⟨vs, e, q⟩ := h; exact ⟨vs, L.o _ _ n e, q.lk L⟩
  | _ => exact h.elim
open Classical in
/-- the state, told of a heap in which a dict that is a datum is locked -/
theorem Sim.lk {H0 : Hp} {B A : List Addr} {H H' : Hp} {σ : L2.St} {ρ : Rho} {d : Addr} {ws : List (Key × V)} (S : Sim H0 B A H σ ρ) (L : Lk d ws H H') (n : d ∉ A) : ∃ H1, Sim H1 [] A H' σ ρ := by
  have nd : ∀ a ∈ A, a ≠ d := fun a ha z => n (z ▸ ha)
  refine ⟨fun a => if a ∈ A then none else H' a, S.len, fun a o e => ?_, fun a ha => ?_, fun a ha => absurd ha List.not_mem_nil, fun a ha => .inr (if_pos ha), fun i x e => ?_, fun i x e => ?_, S.dis⟩
  · by_cases h : a ∈ A
    · simp only [if_pos h] at e; cases e
    · simp only [if_neg h] at e; exact e
  · obtain ⟨o, e, m⟩ := S.muts a ha
    exact ⟨o, L.o _ _ (nd a ha) e, m⟩
  · have := S.sl i x e
    cases x with
    | r y => obtain ⟨v, h1, h2⟩ := this; exact ⟨v, h1, h2.lk L⟩
    | o y => obtain ⟨a, h1, h2, h3⟩ := this; exact ⟨a, h1, h2, h3.lk L (nd a h2)⟩
  · obtain ⟨a, h1, h2⟩ := S.own i x e
    exact ⟨a, h1, List.not_mem_nil⟩
/-! ### the keys -/
def keyD : Key → D
  | .inl i => .int i
  | .inr t => .str t
theorem rp_key {A : List Addr} {H : Hp} (k : Key) : Rp A H (keyD k) (kV k) := by cases k <;> rfl
theorem RpK.keyAt {A : List Addr} {H : Hp} : ∀ {ds : List (Key × D)} {vs : List (Key × V)}, RpK A H ds vs → ∀ {i : Nat} {k : Key} {v : V}, vs[i]? = some (k, v) → ∃ d, ds[i]? = some (k, d)
  | [], _, h, i, k, v, e => by rw [show _ = [] from h] at e; simp at e
  | (j, x) :: ds, _, h, i, k, v, e => by
    obtain ⟨w, r, rfl, h1, h2⟩ := h
    cases i with
    | zero => rw [List.getElem?_cons_zero] at e; cases e; exact ⟨x, rfl⟩
    | succ i => rw [List.getElem?_cons_succ] at e; obtain ⟨d, q⟩ := h2.keyAt e; exact ⟨d, by rw [List.getElem?_cons_succ]; exact q⟩
theorem wk_keysF {A : List Addr} {Hs H1 : Hp} {a : Addr} {od : Obj} {ds : List (Key × D)} {vs : List (Key × V)} (r : RpK A H1 ds vs) (h : Hs a = some (.frz od (.dK vs))) : WkD (Sm Hs) A Hs (Itk a od vs) (ds.map fun kv => keyD kv.1) := by
  refine ⟨_, _, _, walk_keys (d := a) (o := od) (kvs := vs), by rw [List.length_map, r.length], fun H s => s _ _ h, fun A' i H1 x H2 h1 m hr hi y => ?_⟩
  obtain ⟨e, k, v, hk, y⟩ := y
  subst e y
  obtain ⟨d, hd⟩ := r.keyAt hk
  exact ⟨Sm.refl _, keyD k, by rw [List.getElem?_map, hd]; rfl, rp_key k⟩
def dKeysN (i : Nat) : Rho → Option (List D) := fun ρ => match ρ[i]? with
  | some (some (.r (.dic kvs))) => some (kvs.map fun kv => keyD kv.1)
  | _ => none
def dKeys (g : Rho → Option (List (Key × D))) : Rho → Option (List D) := fun ρ => (g ρ).bind fun kvs => some (kvs.map fun kv => keyD kv.1)
section
variable {X : Cx}
/-- in a dict that is new: it is locked for good -/
theorem qiv_keysF {tg e : Expr} {g : Rho → Option (List (Key × D))} (h : QK X e g) : QIV X tg e (dKeys g) := by
  refine ⟨fun pins s σ H R I w => ?_⟩
  obtain ⟨H0, B, A, ρ, ds, S, q, k⟩ := w
  obtain ⟨kvs, e1, e2⟩ := bind1 q
  cases e2
  refine thn (h.run pins s σ H (fun x H1 => ∃ p vs, x = .ref p ∧ Sm H H1 ∧ H p = none ∧ H1 p = some (.dK vs) ∧ RpK (p :: A) H1 kvs vs) I ⟨H0, B, A, ρ, kvs, S, e1, fun p vs H' s n e r => ⟨p, vs, rfl, s, n, e, r⟩⟩) fun u s1 ⟨x, H1, I1, rx, p, vs, ex, sm, hn, hp, r⟩ => ?_
  subst ex
  obtain rfl : u = Value.ref p := rx
  obtain ⟨od, I2⟩ := I1.lock hp True.intro
  have hd : upd H1 p (.frz od (.dK vs)) p = some (.frz od (.dK vs)) := upd_same
  obtain ⟨hs, hgd, hx, es, ep, vs', hdt, hsz, kv, hm⟩ := I2.frzK hd
  refine iter_keys hs hgd hx hdt (pi_one (tk := s1.toks) I2 _ (turn_keys _ hdt) ⟨_, Heap.get?_push_size _ rfl, rfl, by rw [hsz] <;> rfl⟩ (k _ _ ?_ (wk_keysF (r.cut fun b hb => .inl (List.mem_cons_of_mem _ hb)) hd)))
  intro a o e
  rw [upd_ne (ne_of_none e hn)]
  exact sm a o e
/-- [.. for k in x if ..], x a name that holds a dict -/
theorem f_lcK {i : Nat} {x : Str} {ip : Pos} {elt tg : Expr} {ifs : List Expr} {scope : Scope} {own : List (Str × Nat)} {pos : Pos} {is : List Nat} {b : D → Rho → Option Rho} {t : Rho → Option Bool} {f : Den} (hi : X.N[i]? = some x) (hv : Vis X.env.scope x) (hc : X.calm = true) (hN : X.N.Nodup)
    (ok : BlkOk X.N X.env.scope scope own)
    (hg : ∀ (s : Shared) (H : Hp) (C : Addr) (cl : List (Str × Addr)) (fp : List Addr), QG (X.blk s H scope (compEnvC scope cl C X.env) fp) tg is b) (ht : ∀ (s : Shared) (H : Hp) (C : Addr) (cl : List (Str × Addr)) (fp : List Addr), QTs (X.blk s H scope (compEnvC scope cl C X.env) fp) ifs t)
    (he : ∀ (s : Shared) (H : Hp) (C : Addr) (cl : List (Str × Addr)) (fp : List Addr), QE (X.blk s H scope (compEnvC scope cl C X.env) fp) elt f) (his : ∀ i ∈ is, i ∈ own.map (·.2))
    (hd : (x == ("__debug__" : Str)) = false := by decide) (hcd : (x == ("__classdict__" : Str)) = false := by decide) (hs : ∀ z, foldedSetIterable (.Name x ip) X.env z = pure z := by intro _; rfl) :
    QF X (.ListComp elt [⟨tg, .Name x ip, ifs, 0⟩] scope pos) (dComp (own.map (·.2)) (dKeysN i) b t f) := by
  have base := pe_lc (pos := pos) hc hN (pi_keys (tg := tg) (pe_var (pos := ip) hi hv hd hcd)) ok hg ht he hs
  have key : ∀ (σ : L2.St) (H : Hp) (Q : VK) (a : Addr) (od : Obj) (ws : List (Key × V)), σ[i]? = some (some (.ref a)) → H a = some (.frz od (.dK ws)) → (∃ H0 B A ρ out, Sim H0 B A H σ ρ ∧ dComp (own.map (·.2)) (dKeysN i) b t f ρ = some out ∧ (∃ kvs, ρ[i]? = some (some (.r (.dic kvs))) ∧ RpK A H kvs ws) ∧ ∀ p vs H', Sm H H' → H p = none → H' p = some (.lst vs) → RpL (p :: A) H' out vs → Q (.ref p) H') →
      tLc (iKeys (tVar i)) (tG is b) (tBo t) (tE f) (own.map (·.2)) σ H Q := by
    intro σ H Q a od ws hσ hH ⟨H0, B, A, ρ, out, S, e, ⟨kvs, hρ, rk⟩, k⟩
    have w : tLc (tIV (dKeysN i)) (tG is b) (tBo t) (tE f) (own.map (·.2)) σ H Q := lc_den his ⟨H0, B, A, ρ, out, S, e, k⟩
    obtain ⟨H0', B', A', ρ', ds', S', e', k'⟩ := w
    refine ⟨.ref a, hσ, a, od, rfl, .inl ⟨ws, hH, k' _ _ (Sm.refl _) ?_⟩⟩
    unfold dKeysN at e'
    split at e'
    · rename_i kvs' hρ'
      cases e'
      obtain ⟨v, g1, g2⟩ := S'.sl i _ hρ'
      rw [hσ] at g1; cases g1
      obtain ⟨a', ws', ea, _, rd, rk'⟩ := g2
      cases ea
      rcases rd with z | ⟨o2, z⟩
      · rw [hH] at z; cases z
      · rw [hH] at z; cases z
        exact wk_keysF rk' hH
    · cases e'
  refine ((base.or (pe_lock base))).imp fun σ H Q ⟨H0, B, A, ρ, out, S, e, k⟩ => ?_
  obtain ⟨ks, e1, e2⟩ := bind1 e
  have ⟨kvs, hρ⟩ : ∃ kvs, ρ[i]? = some (some (.r (.dic kvs))) := by
    unfold dKeysN at e1
    split at e1
    · exact ⟨_, by assumption⟩
    · cases e1
  obtain ⟨v, g1, g2⟩ := S.sl i _ hρ
  obtain ⟨a, ws, rfl, na, rd, rk⟩ := g2
  rcases rd with z | ⟨od, z⟩
  · refine .inr ⟨a, _, z, True.intro, fun od => ?_⟩
    have L : Lk a ws H (upd H a (.frz od (.dK ws))) := Lk.up z
    obtain ⟨H1, S1⟩ := S.lk L na
    refine key σ _ _ a od ws g1 upd_same ⟨H1, [], A, ρ, out, S1, e, ⟨kvs, hρ, rk.lk L⟩, fun p vs H' s n hp r => ?_⟩
    have np : p ≠ a := fun y => by rw [y, upd_same] at n; cases n
    have ha' := s _ _ (upd_same (H := H) (a := a) (o := .frz od (.dK ws)))
    refine ⟨ha', k p vs _ (fun c u hc => ?_) (by rw [upd_ne np] at n; exact n) (by rw [upd_ne np]; exact hp) (r.lk (Lk.down ha'))⟩
    by_cases y : c = a
    · subst y; rw [upd_same]; rw [z] at hc; exact hc
    · rw [upd_ne y]; exact s _ _ (by rw [upd_ne y]; exact hc)
  · exact .inl (key σ H Q a od ws g1 z ⟨H0, B, A, ρ, out, S, e, ⟨kvs, hρ, rk⟩, k⟩)
end
end LY
set_option Elab.async false
set_option linter.all false
set_option maxRecDepth 100000
set_option maxHeartbeats 1000000
/-! LX22: the head's facts for own exceptions -/
namespace LY
open PySem PySem.Spec PyProof.Rows L2 PySem.Calls LamX NdefX
theorem slB_ok {sl : Array (Option Value)} (h : slB sl = true) : ∃ k0 k1 k2 k3 k5, sl = #[k0, k1, k2, k3, some (.builtin "ValueError.__new__"), k5] := by
  unfold slB at h
  split at h
  · rename_i k0 k1 k2 k3 id k5 e
    refine ⟨k0, k1, k2, k3, k5, ?_⟩
    rw [← beq_iff_eq.mp h]
    exact Array.toList_inj.mp e
  · cases h
theorem oexB_ok {K : PySem.W.Frag} {D C : Addr} (h : oexB K D C = true) : (∃ nm q N bs bm sn sub ab col dd k0 k1 k2 k3 k5, K.lookup C = some (excClassObj nm q C N bs bm true sn sub ab col dd k0 k1 k2 k3 k5 "ValueError.__new__") ∧ PySem.HandSPX.refsVE bm = true) ∧ ∃ cd, PySem.W.clsIn K C = some cd ∧ cd.mro = mroX D C := by
  unfold oexB at h
  split at h
  · rename_i t dd cd sl e
    obtain ⟨h1, h⟩ := He.ba h
    obtain ⟨h2, h⟩ := He.ba h
    obtain ⟨h3, h⟩ := He.ba h
    obtain ⟨h4, h5⟩ := He.ba h
    obtain ⟨k0, k1, k2, k3, k5, rfl⟩ := slB_ok h2
    have h1' := beq_iff_eq.mp h1
    have h5' := of_decide_eq_true h5
    clear h1 h5
    subst h1'
    obtain ⟨nm, bs, mro, N, q, hd, sn, sub, ab, col, dl⟩ := cd
    simp only at h3 h4 h5'
    subst h3 h5'
    have h4 : dl = false := by cases dl <;> first | rfl | cases h4
    subst h4
    have em : ∃ bm, mroX D C = .ref C :: bm ∧ PySem.HandSPX.refsVE bm = true := by
      unfold mroX
      split
      · rename_i q; subst q; exact ⟨_, rfl, by decide +kernel⟩
      · exact ⟨_, rfl, by show PySem.HandSPX.refsVE veTail = true; decide +kernel⟩
    obtain ⟨bm, e1, e2⟩ := em
    refine ⟨⟨nm, q, N, bs, bm, sn, sub, ab, col, dd, k0, k1, k2, k3, k5, by rw [e, e1], e2⟩, ⟨nm, bs, mroX D C, N, q, true, sn, sub, ab, col, false⟩, ?_, rfl⟩
    unfold PySem.W.clsIn
    rw [e]
  · cases h
theorem eqB_ok {a : Option Bool} (h : eqB a = true) : a = some true := by
  cases a with
  | none => cases h
  | some b => rw [show b = true from h]
theorem xrB_ok {K : PySem.W.Frag} {D C : Addr} (h : xrB K D C = true) : XcR K D C := by
  obtain ⟨h1, h⟩ := He.ba h
  obtain ⟨h2, h⟩ := He.ba h
  obtain ⟨h3, h⟩ := He.ba h
  obtain ⟨h4, h⟩ := He.ba h
  obtain ⟨h5, h⟩ := He.ba h
  obtain ⟨h6, h⟩ := He.ba h
  obtain ⟨h7, h⟩ := He.ba h
  obtain ⟨h8, h⟩ := He.ba h
  obtain ⟨h9, h⟩ := He.ba h
  obtain ⟨h10, h⟩ := He.ba h
  obtain ⟨h11, h⟩ := He.ba h
  obtain ⟨h12, h⟩ := He.ba h
  obtain ⟨h13, h14⟩ := He.ba h
  obtain ⟨o1, o2⟩ := oexB_ok h1
  obtain ⟨cd, o3, o4⟩ := o2
  exact ⟨⟨⟨o1, of_decide_eq_true h2, eqB_ok h3, of_decide_eq_true h4, h5⟩, of_decide_eq_true h6, by rw [o3]; rfl, of_decide_eq_true h7, eqB_ok h8, eqB_ok h9⟩,
    ⟨of_decide_eq_true h10, of_decide_eq_true h11, eqB_ok h3, h12⟩, of_decide_eq_true h13, eqB_ok h14, ⟨cd, o3, o4⟩, of_decide_eq_true h4⟩
theorem xkB_ok {K : PySem.W.Frag} (h : xkB K = true) : XcK K := by
  obtain ⟨h1, h2⟩ := He.ba h
  exact ⟨of_decide_eq_true h1, eqB_ok h2⟩
/-! ### the __init__ -/
theorem initB_ok {file : Str} {K : PySem.W.Frag} {D f : Addr} {name qual : Str} {params : Arguments} {body : List Stmt} {scope : Scope} (h : initB file K D f qual = true) (e : fnI K f = (some (name, qual, params, FuncBody.stmts body, scope, mainGlobals, ["__class__"], Value.none, builtinsNs) : FnI)) :
    ∃ oc od kV doc pm an cda ct cc osl, K.lookup f = some ⟨oc, od, .func (PySem.W.ksFn name qual params body scope .none kV doc pm an (.ref cda) ct cc), osl⟩ ∧ PySem.W.codeIn K (.ref cda) qual = true ∧
      (∃ ccl cdd vs fl tf ccs, K.lookup cda = some ⟨ccl, cdd, .fields vs, ccs⟩ ∧ vs[2]? = some (.str fl tf) ∧ (file == fl) = true) ∧ ∃ cl cld csl, K.lookup cc = some ⟨cl, cld, .cell (some (.ref D)), csl⟩ := by
  unfold initB at h
  unfold fnI at e
  split at h
  · rename_i oc od fd osl lk
    rw [lk] at e
    split at h
    · rename_i cda y cc e1 e2
      obtain ⟨h1, h⟩ := He.ba h
      obtain ⟨h2, h3⟩ := He.ba h
      obtain ⟨n1, n2, n3, n4, n5, n6, n7, n8, n9, n10, n11, n12, n13, n14, n15⟩ := fd
      simp only [Option.some.injEq, Prod.mk.injEq] at e e1 e2
      subst e1 e2
      obtain ⟨a1, a2, a3, a4, a5, a6, a7, a8, a9⟩ := e
      subst a1 a2 a3 a4 a5 a6 a8 a9
      have a7 : y = "__class__" := by simpa using a7
      subst a7
      refine ⟨oc, od, n9, n10, n11, n12, cda, n14, cc, osl, lk, h1, ?_, ?_⟩
      · split at h2
        · rename_i ccl cdd vs ccs q
          split at h2
          · rename_i fl tf q2
            exact ⟨ccl, cdd, vs, fl, tf, ccs, q, q2, h2⟩
          · cases h2
        · cases h2
      · split at h3
        · rename_i cl cld c csl q
          exact ⟨cl, cld, csl, by rw [q, beq_iff_eq.mp h3]⟩
        · cases h3
    · cases h
  · cases h
end LY
set_option Elab.async false
set_option linter.all false
set_option maxRecDepth 100000
set_option maxHeartbeats 2000000
namespace G
open PySem PySem.Spec PyProof.Rows L2 LY
theorem hU {k : Nat} {A : Around} (hr : Room k A) : A.units + 65 < cLine := by have := hr.un; omega
theorem hU1 {k : Nat} {A : Around} (hr : Room k A) : A.units + 1 < cLine := by have := hr.un; omega
theorem hF_of (n m : Nat) {ps N : List Str} {G : Rho → Option Out} (h1 : ps.length = n) (h2 : N.length = m) : ∀ (ds : List D) (d : D), (if ds.length = n then (G (rho0 m ds)).bind outD else none) = some d → ds.length = ps.length ∧ ∃ o, G (rho0 N.length ds) = some o ∧ outD o = some d := by
  intro ds d h
  split at h
  · rename_i hl
    obtain ⟨o, e1, e2⟩ := bind1 h
    exact ⟨by rw [hl, h1], o, by rw [h2]; exact e1, e2⟩
  · cases h
section
variable {P : Program} {w : World} {K : PySem.W.Frag} {mg : Str → Option Value} {base : Heap}
def N__law_pot : List Str := ["script", "place", "cell", "own", "small"]
def g__law_pot : DenL := dSeqL (fAsg (bName 2) (dIf (dT (d2 fLt (dName 1) (d1 fLen (dName 0)))) (d2 fIx (dName 0) (dName 1)) (d2 fAdd (d2 fAdd (d2 fMod (d1 fSum (dSl (dName 0) (dNoPart) (dPart (dK (.int 1))))) (dK (.int 1000003))) (d2 fMul (dK (.int 3804)) (dName 1))) (dK (.int 6012))))) (dSeqL (fAsg (bName 3) (d2 fMul (d2 fMod (d1 fInt (d1 fAbs (dName 2))) (d2 fPow (d2 fPow (dK (.int 10)) (dK (.int 60))) (dK (.int 5)))) (d1 fInt (d2 fGe (d1 fAbs (dName 2)) (d2 fPow (dK (.int 10)) (dK (.int 18))))))) (dSeqL (fAsg (bName 4) (d2 fMod (d1 fInt (dName 2)) (dK (.int 2305843009213693951)))) (dDisp (dCons (dName 3) (dCons (d2 fMod (d1 fInt (d2 fAdd (d2 fAdd (d2 fMul (dName 4) (dK (.int 64728))) (d2 fMul (d2 fMul (dK (.int 5386)) (dName 1)) (dName 1))) (dK (.int 1956)))) (dK (.int 2305843009213693921))) (dCons (dK (.int 0)) (dNil)))))))
def F__law_pot : List D → Option (List D) := fun ds => if ds.length = 2 then g__law_pot (rho0 5 ds) else none
theorem W__law_pot (M : Mg mg) (Df : DefF K mg "_law_pot" (top 67)) : Fn P w K mg base 1 "_law_pot" (spQF (F__law_pot)) :=
  Df.fn (ps := ["script", "place"]) (fun _ _ _ _ _ _ us hl => match us, hl with | [_, _], _ => rfl) fun f fd Fd =>
  fn_qF (N := N__law_pot) (G := g__law_pot) Fd (C8.fnScope_by (by decide +kernel)) (hFL_of 2 5 rfl rfl) fun cdv A outer s H E hr => by
    have nd : (cxOf L2.CX0 P w K mg base N__law_pot "_law_pot" (defScope (top 67)) f cdv A outer s H E).nox.N.Nodup := (by decide : (N__law_pot).Nodup)
    exact qsf_cons (s_set (i := 2) nd (by exact rfl) (by first | exact Or.inl rfl | exact Or.inr rfl) (q_if (t_cmp op_lt b2_lt (QE.v (qn 1)) (QE.v (q_len (by exact rfl) M.len (QE.v (qn 0)))) (nomark _)) (q_ix (hU1 hr) (QE.v (qn 0)) (QE.v (qn 1))) (q_op op_addAll (b2_add _) (QE.v (q_op op_addAll (b2_add _) (QE.v (q_op op_mod b2_mod (QE.v (q_callB (cr_sum (by exact rfl)) (b1_sum _) (by exact rfl) M.sum (by decide +kernel) (QE.v (q_slice (QE.v (qn 0)) (qo_none) (qo_some (QE.v (q_int))))))) (QE.v (q_int)))) (QE.v (q_op op_mul b2_mul (QE.v (q_int)) (QE.v (qn 1)))))) (QE.v (q_int))))) (qsf_cons (s_set (i := 3) nd (by exact rfl) (by first | exact Or.inl rfl | exact Or.inr rfl) (q_op op_mul b2_mul (QE.v (q_op op_mod b2_mod (QE.v (q_callTy call_int1 b1_int (by exact rfl) M.int (by decide +kernel) (QE.v (q_callB call_abs b1_abs (by exact rfl) M.abs (by decide +kernel) (QE.v (qn 2)))))) (QE.v (q_op op_powX b2_pow (QE.v (q_op op_powX b2_pow (QE.v (q_int)) (QE.v (q_int)))) (QE.v (q_int)))))) (QE.v (q_callTy call_int1 b1_int (by exact rfl) M.int (by decide +kernel) (QE.v (q_cmp op_ge b2_ge (QE.v (q_callB call_abs b1_abs (by exact rfl) M.abs (by decide +kernel) (QE.v (qn 2)))) (QE.v (q_op op_powX b2_pow (QE.v (q_int)) (QE.v (q_int)))) (nomark _))))))) (qsf_cons (s_set (i := 4) nd (by exact rfl) (by first | exact Or.inl rfl | exact Or.inr rfl) (q_op op_mod b2_mod (QE.v (q_callTy call_int1 b1_int (by exact rfl) M.int (by decide +kernel) (QE.v (qn 2)))) (QE.v (q_int)))) (qsf_ret (f_lst (ql_cons (qn 3) (ql_cons (q_op op_mod b2_mod (QE.v (q_callTy call_int1 b1_int (by exact rfl) M.int (by decide +kernel) (QE.v (q_op op_addAll (b2_add _) (QE.v (q_op op_addAll (b2_add _) (QE.v (q_op op_mul b2_mul (QE.v (qn 4)) (QE.v (q_int)))) (QE.v (q_op op_mul b2_mul (QE.v (q_op op_mul b2_mul (QE.v (q_int)) (QE.v (qn 1)))) (QE.v (qn 1)))))) (QE.v (q_int)))))) (QE.v (q_int))) (ql_cons (q_int) (ql_nil))))))))
def N__law_take : List Str := ["pot", "upto", "prime", "blend", "digit"]
def g__law_take (p : Addr) : TSt := xSeq (xIfS (xTst (xOp fGt (xPotGet p 0 0) (lE (dK (.int 0))))) (xSeq (xAsg (bName 4) (xOp fMod (x1 fInt (xPotGet p 0 0)) (lE (dName 1)))) (xSeq (xPotSet0 p 0 (xOp fDiv (xPotGet p 0 0) (lE (dName 1)))) (lS (fRet (dName 4))))) (lS fNext)) (xSeq (xPotInc p 0) (xRel 0 (xSeq (xAsg (bName 2) (xOp fIx (lE (dLst (dDisp (dCons (dK (.int 2147483647)) (dCons (dK (.int 2147483629)) (dCons (dK (.int 2147483587)) (dCons (dK (.int 2147483579)) (dCons (dK (.int 2147483563)) (dNil))))))))) (xOp fMod (x1 fInt (xPotGet p 0 2)) (lE (dK (.int 5)))))) (xSeq (xAsg (bName 3) (xOp fMod (x1 fInt (xOp fPow (x1 fInt (xOp fAdd (xOp fAdd (xPotGet p 0 1) (xOp fMul (xOp fMul (lE (dK (.int 93815))) (xPotGet p 0 2)) (xPotGet p 0 2))) (lE (dK (.int 1956))))) (lE (dK (.int 3))))) (lE (dName 2)))) (xSeq (xAsg (bName 3) (xOp fMod (x1 fInt (xOp fMul (lE (dName 3)) (xOp fAdd (lE (d2 fMod (d1 fInt (dName 3)) (dK (.int 15013)))) (xOp fMul (lE (dK (.int 62))) (xPotGet p 0 2))))) (lE (dK (.int 2305843009213693907))))) (lS (fRet (d2 fMod (d1 fInt (d2 fDiv (dName 3) (dK (.int 128)))) (dName 1)))))))))
def R__law_take : List D → Nat → (D → Nat → Prop) → Prop := fun ds c Q => ds.length = 1 ∧ ∀ p, g__law_take p (rho0 5 (.raw (.ref p) :: ds)) c fun o c2 => ∃ d, outD o = some d ∧ Q d c2
theorem W__law_take (M : Mg mg) (Df : DefF K mg "_law_take" (top 68)) : Fn P w K mg base 1 "_law_take" (spX (R__law_take)) :=
  Df.fn (ps := ["pot", "upto"]) (fun _ _ _ _ _ _ us hl => match us, hl with | [_, _], _ => rfl) fun f fd Fd =>
  fn_x (N := N__law_take) (G := g__law_take) Fd (C8.fnScope_by (by decide +kernel)) (fun p ds c Q h => ⟨by rw [h.1]; rfl, h.2 p⟩) fun p cdv A outer s H E hr => by
    have nd : (cxOf L2.CX0 P w K mg base N__law_take "_law_take" (defScope (top 68)) f cdv A outer s H E).nox.N.Nodup := (by decide : (N__law_take).Nodup)
    exact xss_cons (xs_if (xt_cmp op_gt b2_gt (x_potget (i := 0) (n := 0) (hU1 hr) (by exact rfl) (by first | exact Or.inl rfl | exact Or.inr (Or.inl rfl) | exact Or.inr (Or.inr rfl))) (QE.x (q_int)) (nomark _)) (xss_cons (xs_set (i := 4) nd (by exact rfl) (by first | exact Or.inl rfl | exact Or.inr rfl) (x_op op_mod b2_mod (x_callTy call_int1 b1_int (by exact rfl) M.int (by decide +kernel) (x_potget (i := 0) (n := 0) (hU1 hr) (by exact rfl) (by first | exact Or.inl rfl | exact Or.inr (Or.inl rfl) | exact Or.inr (Or.inr rfl)))) (QE.x (qn 1)))) (xss_cons (xs_potset0 (i := 0) (by exact rfl) (by first | exact Or.inl rfl | exact Or.inr (Or.inl rfl) | exact Or.inr (Or.inr rfl)) (x_op op_fdiv b2_div (x_potget (i := 0) (n := 0) (hU1 hr) (by exact rfl) (by first | exact Or.inl rfl | exact Or.inr (Or.inl rfl) | exact Or.inr (Or.inr rfl))) (QE.x (qn 1)))) (xss_one (QS.x (s_ret (qn 4)))))) (QSs.x ss_nil)) (xss_cons (xs_potinc (i := 0) (hU1 hr) (by exact rfl) (by first | exact Or.inl rfl | exact Or.inr (Or.inl rfl) | exact Or.inr (Or.inr rfl))) (xss_rel 0 (xss_cons (xs_set (i := 2) nd (by exact rfl) (by first | exact Or.inl rfl | exact Or.inr rfl) (x_ix (hU1 hr) (QE.x (QF.e (f_lst (ql_cons (q_int) (ql_cons (q_int) (ql_cons (q_int) (ql_cons (q_int) (ql_cons (q_int) (ql_nil))))))))) (x_op op_mod b2_mod (x_callTy call_int1 b1_int (by exact rfl) M.int (by decide +kernel) (x_potget (i := 0) (n := 2) (hU1 hr) (by exact rfl) (by first | exact Or.inl rfl | exact Or.inr (Or.inl rfl) | exact Or.inr (Or.inr rfl)))) (QE.x (q_int))))) (xss_cons (xs_set (i := 3) nd (by exact rfl) (by first | exact Or.inl rfl | exact Or.inr rfl) (x_op op_mod b2_mod (x_callTy call_int1 b1_int (by exact rfl) M.int (by decide +kernel) (x_op op_powX b2_pow (x_callTy call_int1 b1_int (by exact rfl) M.int (by decide +kernel) (x_op op_addAll (b2_add _) (x_op op_addAll (b2_add _) (x_potget (i := 0) (n := 1) (hU1 hr) (by exact rfl) (by first | exact Or.inl rfl | exact Or.inr (Or.inl rfl) | exact Or.inr (Or.inr rfl))) (x_op op_mul b2_mul (x_op op_mul b2_mul (QE.x (q_int)) (x_potget (i := 0) (n := 2) (hU1 hr) (by exact rfl) (by first | exact Or.inl rfl | exact Or.inr (Or.inl rfl) | exact Or.inr (Or.inr rfl)))) (x_potget (i := 0) (n := 2) (hU1 hr) (by exact rfl) (by first | exact Or.inl rfl | exact Or.inr (Or.inl rfl) | exact Or.inr (Or.inr rfl))))) (QE.x (q_int)))) (QE.x (q_int)))) (QE.x (qn 2)))) (xss_cons (xs_set (i := 3) nd (by exact rfl) (by first | exact Or.inl rfl | exact Or.inr rfl) (x_op op_mod b2_mod (x_callTy call_int1 b1_int (by exact rfl) M.int (by decide +kernel) (x_op op_mul b2_mul (QE.x (qn 3)) (x_op op_addAll (b2_add _) (QE.x (q_op op_mod b2_mod (QE.v (q_callTy call_int1 b1_int (by exact rfl) M.int (by decide +kernel) (QE.v (qn 3)))) (QE.v (q_int)))) (x_op op_mul b2_mul (QE.x (q_int)) (x_potget (i := 0) (n := 2) (hU1 hr) (by exact rfl) (by first | exact Or.inl rfl | exact Or.inr (Or.inl rfl) | exact Or.inr (Or.inr rfl))))))) (QE.x (q_int)))) (xss_one (QS.x (s_ret (q_op op_mod b2_mod (QE.v (q_callTy call_int1 b1_int (by exact rfl) M.int (by decide +kernel) (QE.v (q_op op_fdiv b2_div (QE.v (qn 3)) (QE.v (q_int)))))) (QE.v (qn 1)))))))))))
def N__law_of : List Str := ["pot", "some"]
def g__law_of (p : Addr) : TSt := xRet (xOp fIx (lE (dName 1)) (xCall p 0 (R__law_take) (xCons (lE (d1 fLen (dName 1))) (xNil))))
def R__law_of : List D → Nat → (D → Nat → Prop) → Prop := fun ds c Q => ds.length = 1 ∧ ∀ p, g__law_of p (rho0 2 (.raw (.ref p) :: ds)) c fun o c2 => ∃ d, outD o = some d ∧ Q d c2
theorem W__law_of (M : Mg mg) (Df : DefF K mg "_law_of" (top 69)) (W__law_take : Fn P w K mg base 1 "_law_take" (spX (R__law_take))) : Fn P w K mg base 2 "_law_of" (spX (R__law_of)) :=
  Df.fn (ps := ["pot", "some"]) (fun _ _ _ _ _ _ us hl => match us, hl with | [_, _], _ => rfl) fun f fd Fd =>
  fn_x (N := N__law_of) (G := g__law_of) Fd (C8.fnScope_by (by decide +kernel)) (fun p ds c Q h => ⟨by rw [h.1]; rfl, h.2 p⟩) fun p cdv A outer s H E hr => by
    have nd : (cxOf L2.CX0 P w K mg base N__law_of "_law_of" (defScope (top 69)) f cdv A outer s H E).nox.N.Nodup := (by decide : (N__law_of).Nodup)
    exact xss_one (xs_ret (x_ix (hU1 hr) (QE.x (qn 1)) (x_call (i := 0) W__law_take (hr.mono (by first | decide | omega)) (by exact rfl) (by exact rfl) (by first | exact Or.inl rfl | exact Or.inr (Or.inl rfl) | exact Or.inr (Or.inr rfl)) (xl_cons (QE.x (q_len (by exact rfl) M.len (QE.v (qn 1)))) (xl_nil)))))
def N__law_cells : List Str := ["script", "most"]
def g__law_cells : Rho → Option Out := fRet (dLst (dListR (d2 fMax2 (dK (.int 1)) (d2 fMin2 (dName 1) (d1 fLen (dName 0))))))
def F__law_cells : List D → Option D := fun ds => if ds.length = 2 then (g__law_cells (rho0 2 ds)).bind outD else none
theorem W__law_cells (M : Mg mg) (Df : DefF K mg "_law_cells" (top 70)) : Fn P w K mg base 1 "_law_cells" (spQ (F__law_cells)) :=
  Df.fn (ps := ["script", "most"]) (fun _ _ _ _ _ _ us hl => match us, hl with | [_, _], _ => rfl) fun f fd Fd =>
  fn_q (N := N__law_cells) (G := g__law_cells) Fd (C8.fnScope_by (by decide +kernel)) (hF_of 2 2 rfl rfl) fun cdv A outer s H E hr => by
    have nd : (cxOf L2.CX0 P w K mg base N__law_cells "_law_cells" (defScope (top 70)) f cdv A outer s H E).nox.N.Nodup := (by decide : (N__law_cells).Nodup)
    exact ss_one (s_ret (QF.e (f_listRange (by exact rfl) (by exact rfl) M.list (by exact rfl) M.range (QE.v (q_callB2 (F := fMax2) (call_max2 (by exact rfl)) b2l_max (by exact rfl) M.max (by decide +kernel) (QE.v (q_int)) (QE.v (q_callB2 (F := fMin2) (call_min2 (by exact rfl)) b2l_min (by exact rfl) M.min (by decide +kernel) (QE.v (qn 1)) (QE.v (q_len (by exact rfl) M.len (QE.v (qn 0)))))))))))
def N__law_odd : List Str := ["pot", "some", "value", "lap"]
def g__law_odd (p : Addr) : TSt := xSeq (lS (fAsg (bName 1) (dLst (dDisp (dCons (dK .non) (dCons (dK (.bl true)) (dCons (dK (.bl false)) (dCons (dK (.int 0)) (dCons (dK (.int 1)) (dCons (d1 fNeg (dK (.int 1))) (dCons (dK (.int 2)) (dCons (dK (.int 9)) (dCons (dK (.int 10)) (dCons (d2 fPow (dK (.int 10)) (dK (.int 11))) (dCons (dK (.str "")) (dCons (dK (.str "a")) (dCons (dK (.str "p1")) (dCons (dTup (dNil)) (dCons (dLst (dDisp (dNil))) (dCons (dK (.dic [])) (dCons (dTup (dCons (dK (.int 0)) (dNil))) (dCons (dTup (dCons (dK (.str "a")) (dNil))) (dCons (dLst (dDisp (dCons (dK (.str "a")) (dNil)))) (dCons (dTup (dCons (dK (.str "a")) (dCons (dK (.str "b")) (dNil)))) (dNil))))))))))))))))))))))))) (xSeq (xAsg (bName 2) (xCall p 0 (R__law_of) (xCons (lE (d2 fAdd (dName 1) (dLst (dDisp (dCons (dTup (dCons (dTup (dNil)) (dNil))) (dCons (dTup (dCons (dTup (dCons (dK (.str "a")) (dNil))) (dNil))) (dCons (dTup (dCons (dK (.int 1)) (dCons (dTup (dNil)) (dCons (dTup (dNil)) (dNil))))) (dCons (dTup (dCons (dK (.bl true)) (dCons (dK (.int 1)) (dNil)))) (dCons (dTup (dCons (dK (.str "flat")) (dCons (dTup (dNil)) (dNil)))) (dCons (dTup (dCons (dK (.str "five")) (dCons (dTup (dCons (dK (.str "a")) (dNil))) (dCons (dTup (dNil)) (dNil))))) (dNil))))))))))) (xNil)))) (xSeq (xFor (xRange1 (xCall p 0 (R__law_of) (xCons (lE (dLst (dDisp (dCons (dK (.int 0)) (dCons (dK (.int 0)) (dCons (dK (.int 0)) (dCons (dK (.int 1)) (dCons (dK (.int 2)) (dCons (dK (.int 9)) (dNil)))))))))) (xNil)))) (bName 3) (xAsg (bName 2) (xCall p 0 (R__law_of) (xCons (lE (dLst (dDisp (dCons (dTup (dCons (dName 2) (dNil))) (dCons (dLst (dDisp (dCons (dName 2) (dNil)))) (dCons (d1 (fDisp1 "a") (dName 2)) (dCons (dTup (dCons (dK (.str "a")) (dCons (dName 2) (dNil)))) (dNil)))))))) (xNil))))) (lS (fRet (dName 2)))))
def R__law_odd : List D → Nat → (D → Nat → Prop) → Prop := fun ds c Q => ds.length = 0 ∧ ∀ p, g__law_odd p (rho0 4 (.raw (.ref p) :: ds)) c fun o c2 => ∃ d, outD o = some d ∧ Q d c2
theorem W__law_odd (M : Mg mg) (Df : DefF K mg "_law_odd" (top 71)) (W__law_of : Fn P w K mg base 2 "_law_of" (spX (R__law_of))) : Fn P w K mg base 3 "_law_odd" (spX (R__law_odd)) :=
  Df.fn (ps := ["pot"]) (fun _ _ _ _ _ _ us hl => match us, hl with | [_], _ => rfl) fun f fd Fd =>
  fn_x (N := N__law_odd) (G := g__law_odd) Fd (C8.fnScope_by (by decide +kernel)) (fun p ds c Q h => ⟨by rw [h.1]; rfl, h.2 p⟩) fun p cdv A outer s H E hr => by
    have nd : (cxOf L2.CX0 P w K mg base N__law_odd "_law_odd" (defScope (top 71)) f cdv A outer s H E).nox.N.Nodup := (by decide : (N__law_odd).Nodup)
    exact xss_cons (QS.x (s_set (i := 1) nd (by exact rfl) (by first | exact Or.inl rfl | exact Or.inr rfl) (QF.e (f_lst (ql_cons (q_non) (ql_cons (q_bl) (ql_cons (q_bl) (ql_cons (q_int) (ql_cons (q_int) (ql_cons (q_neg (q_int)) (ql_cons (q_int) (ql_cons (q_int) (ql_cons (q_int) (ql_cons (q_op op_powX b2_pow (QE.v (q_int)) (QE.v (q_int))) (ql_cons (q_str) (ql_cons (q_str) (ql_cons (q_str) (ql_cons (q_tup (ql_nil)) (ql_cons (QF.e (f_lst (ql_nil))) (ql_cons (q_dict0) (ql_cons (q_tup (ql_cons (q_int) (ql_nil))) (ql_cons (q_tup (ql_cons (q_str) (ql_nil))) (ql_cons (QF.e (f_lst (ql_cons (q_str) (ql_nil)))) (ql_cons (q_tup (ql_cons (q_str) (ql_cons (q_str) (ql_nil)))) (ql_nil))))))))))))))))))))))))) (xss_cons (xs_set (i := 2) nd (by exact rfl) (by first | exact Or.inl rfl | exact Or.inr rfl) (x_call (i := 0) W__law_of (hr.mono (by first | decide | omega)) (by exact rfl) (by exact rfl) (by first | exact Or.inl rfl | exact Or.inr (Or.inl rfl) | exact Or.inr (Or.inr rfl)) (xl_cons (QE.x (q_op op_addAll (b2_add _) (QE.v (qn 1)) (QE.v (QF.e (f_lst (ql_cons (q_tup (ql_cons (q_tup (ql_nil)) (ql_nil))) (ql_cons (q_tup (ql_cons (q_tup (ql_cons (q_str) (ql_nil))) (ql_nil))) (ql_cons (q_tup (ql_cons (q_int) (ql_cons (q_tup (ql_nil)) (ql_cons (q_tup (ql_nil)) (ql_nil))))) (ql_cons (q_tup (ql_cons (q_bl) (ql_cons (q_int) (ql_nil)))) (ql_cons (q_tup (ql_cons (q_str) (ql_cons (q_tup (ql_nil)) (ql_nil)))) (ql_cons (q_tup (ql_cons (q_str) (ql_cons (q_tup (ql_cons (q_str) (ql_nil))) (ql_cons (q_tup (ql_nil)) (ql_nil))))) (ql_nil)))))))))))) (xl_nil)))) (xss_cons (xs_for PassesOwn.never (by exact rfl) (xi_range1 (by exact rfl) M.range (x_call (i := 0) W__law_of (hr.mono (by first | decide | omega)) (by exact rfl) (by exact rfl) (by first | exact Or.inl rfl | exact Or.inr (Or.inl rfl) | exact Or.inr (Or.inr rfl)) (xl_cons (QE.x (QF.e (f_lst (ql_cons (q_int) (ql_cons (q_int) (ql_cons (q_int) (ql_cons (q_int) (ql_cons (q_int) (ql_cons (q_int) (ql_nil)))))))))) (xl_nil)))) (qg_name (i := 3) nd (by exact rfl) (by first | exact Or.inl rfl | exact Or.inr rfl)) (xss_one (xs_set (i := 2) nd (by exact rfl) (by first | exact Or.inl rfl | exact Or.inr rfl) (x_call (i := 0) W__law_of (hr.mono (by first | decide | omega)) (by exact rfl) (by exact rfl) (by first | exact Or.inl rfl | exact Or.inr (Or.inl rfl) | exact Or.inr (Or.inr rfl)) (xl_cons (QE.x (QF.e (f_lst (ql_cons (q_tup (ql_cons (qn 2) (ql_nil))) (ql_cons (QF.e (f_lst (ql_cons (qn 2) (ql_nil)))) (ql_cons (q_disp1 (qn 2)) (ql_cons (q_tup (ql_cons (q_str) (ql_cons (qn 2) (ql_nil)))) (ql_nil)))))))) (xl_nil)))))) (xss_one (QS.x (s_ret (qn 2))))))
def N__law_marks_first : List Str := ["error", "found"]
def g__law_marks_first (cx : Str → Addr) : DenD := dSeqD (fPut 1 (fun _ => some (.o (.dic [])))) (dSeqD (fDPut 1 (dK (.str "Adrift")) (d1 (fIsX (cx "ParkError") (allX nX cx) (cx "Adrift")) (dName 0))) (dSeqD (fDPut 1 (dK (.str "Alike")) (d1 (fIsX (cx "ParkError") (allX nX cx) (cx "Alike")) (dName 0))) (dSeqD (fDPut 1 (dK (.str "Apart")) (d1 (fIsX (cx "ParkError") (allX nX cx) (cx "Apart")) (dName 0))) (dSeqD (fDPut 1 (dK (.str "BadBonds")) (d1 (fIsX (cx "ParkError") (allX nX cx) (cx "BadBonds")) (dName 0))) (dSeqD (fDPut 1 (dK (.str "BadBundle")) (d1 (fIsX (cx "ParkError") (allX nX cx) (cx "BadBundle")) (dName 0))) (dSeqD (fDPut 1 (dK (.str "BadCaps")) (d1 (fIsX (cx "ParkError") (allX nX cx) (cx "BadCaps")) (dName 0))) (dSeqD (fDPut 1 (dK (.str "BadDeed")) (d1 (fIsX (cx "ParkError") (allX nX cx) (cx "BadDeed")) (dName 0))) (dSeqD (fDPut 1 (dK (.str "BadDetours")) (d1 (fIsX (cx "ParkError") (allX nX cx) (cx "BadDetours")) (dName 0))) (dSeqD (fDPut 1 (dK (.str "BadFilled")) (d1 (fIsX (cx "ParkError") (allX nX cx) (cx "BadFilled")) (dName 0))) (dSeqD (fDPut 1 (dK (.str "BadJournal")) (d1 (fIsX (cx "ParkError") (allX nX cx) (cx "BadJournal")) (dName 0))) (dSeqD (fDPut 1 (dK (.str "BadKnot")) (d1 (fIsX (cx "ParkError") (allX nX cx) (cx "BadKnot")) (dName 0))) (dSeqD (fDPut 1 (dK (.str "BadLetters")) (d1 (fIsX (cx "ParkError") (allX nX cx) (cx "BadLetters")) (dName 0))) (dSeqD (fDPut 1 (dK (.str "BadLevels")) (d1 (fIsX (cx "ParkError") (allX nX cx) (cx "BadLevels")) (dName 0))) (dSeqD (fDPut 1 (dK (.str "BadLine")) (d1 (fIsX (cx "ParkError") (allX nX cx) (cx "BadLine")) (dName 0))) (dSeqD (fDPut 1 (dK (.str "BadLists")) (d1 (fIsX (cx "ParkError") (allX nX cx) (cx "BadLists")) (dName 0))) (dSeqD (fDPut 1 (dK (.str "BadLot")) (d1 (fIsX (cx "ParkError") (allX nX cx) (cx "BadLot")) (dName 0))) (dSeqD (fDPut 1 (dK (.str "BadLump")) (d1 (fIsX (cx "ParkError") (allX nX cx) (cx "BadLump")) (dName 0))) (dSeqD (fDPut 1 (dK (.str "BadLumps")) (d1 (fIsX (cx "ParkError") (allX nX cx) (cx "BadLumps")) (dName 0))) (dSeqD (fDPut 1 (dK (.str "BadNails")) (d1 (fIsX (cx "ParkError") (allX nX cx) (cx "BadNails")) (dName 0))) (dSeqD (fDPut 1 (dK (.str "BadNumber")) (d1 (fIsX (cx "ParkError") (allX nX cx) (cx "BadNumber")) (dName 0))) (dSeqD (fDPut 1 (dK (.str "BadOrders")) (d1 (fIsX (cx "ParkError") (allX nX cx) (cx "BadOrders")) (dName 0))) (dSeqD (fDPut 1 (dK (.str "BadPark")) (d1 (fIsX (cx "ParkError") (allX nX cx) (cx "BadPark")) (dName 0))) (dSeqD (fDPut 1 (dK (.str "BadPaths")) (d1 (fIsX (cx "ParkError") (allX nX cx) (cx "BadPaths")) (dName 0))) (dSeqD (fDPut 1 (dK (.str "BadPlaces")) (d1 (fIsX (cx "ParkError") (allX nX cx) (cx "BadPlaces")) (dName 0))) (dSeqD (fDPut 1 (dK (.str "BadPledge")) (d1 (fIsX (cx "ParkError") (allX nX cx) (cx "BadPledge")) (dName 0))) (dSeqD (fDPut 1 (dK (.str "BadPoints")) (d1 (fIsX (cx "ParkError") (allX nX cx) (cx "BadPoints")) (dName 0))) (dSeqD (fDPut 1 (dK (.str "BadPress")) (d1 (fIsX (cx "ParkError") (allX nX cx) (cx "BadPress")) (dName 0))) (dSeqD (fDPut 1 (dK (.str "BadPulls")) (d1 (fIsX (cx "ParkError") (allX nX cx) (cx "BadPulls")) (dName 0))) (dSeqD (fDPut 1 (dK (.str "BadRing")) (d1 (fIsX (cx "ParkError") (allX nX cx) (cx "BadRing")) (dName 0))) (dSeqD (fDPut 1 (dK (.str "BadRings")) (d1 (fIsX (cx "ParkError") (allX nX cx) (cx "BadRings")) (dName 0))) (dSeqD (fDPut 1 (dK (.str "BadRow")) (d1 (fIsX (cx "ParkError") (allX nX cx) (cx "BadRow")) (dName 0))) (dSeqD (fDPut 1 (dK (.str "BadSigns")) (d1 (fIsX (cx "ParkError") (allX nX cx) (cx "BadSigns")) (dName 0))) (oDic 1)))))))))))))))))))))))))))))))))
def F__law_marks_first (cx : Str → Addr) : List D → Option (List (Key × D)) := fun ds => if ds.length = 1 then g__law_marks_first cx (rho0 2 ds) else none
theorem W__law_marks_first (cx : Str → Addr) (M : Mg mg) (Df : DefF K mg "_law_marks_first" (top 74)) (Xc : ExX K mg base nX "ParkError" cx) : Fn P w K mg base 1 "_law_marks_first" (spQD (F__law_marks_first cx)) :=
  Df.fn (ps := ["error"]) (fun _ _ _ _ _ _ us hl => match us, hl with | [_], _ => rfl) fun f fd Fd =>
  fn_qD (N := N__law_marks_first) (G := g__law_marks_first cx) Fd (C8.fnScope_by (by decide +kernel)) (hFD_of 1 2 rfl rfl) fun cdv A outer s H E hr => by
    have nd : (cxOf L2.CX0 P w K mg base N__law_marks_first "_law_marks_first" (defScope (top 74)) f cdv A outer s H E).nox.N.Nodup := (by decide : (N__law_marks_first).Nodup)
    exact qsd_cons (s_put (i := 1) nd (by exact rfl) (by first | exact Or.inl rfl | exact Or.inr rfl) z_dict0) (qsd_cons (s_dput (i := 1) (hU1 hr) (by exact rfl) (by first | exact Or.inl rfl | exact Or.inr (Or.inl rfl) | exact Or.inr (Or.inr rfl)) (QE.v (q_str)) (q_isX Xc.c (mem_x cx (by decide +kernel)) Xc.k (by exact rfl) M.isinstance (by exact rfl) (Xc.g _ (by decide +kernel)) (QE.v (qn 0)))) (qsd_cons (s_dput (i := 1) (hU1 hr) (by exact rfl) (by first | exact Or.inl rfl | exact Or.inr (Or.inl rfl) | exact Or.inr (Or.inr rfl)) (QE.v (q_str)) (q_isX Xc.c (mem_x cx (by decide +kernel)) Xc.k (by exact rfl) M.isinstance (by exact rfl) (Xc.g _ (by decide +kernel)) (QE.v (qn 0)))) (qsd_cons (s_dput (i := 1) (hU1 hr) (by exact rfl) (by first | exact Or.inl rfl | exact Or.inr (Or.inl rfl) | exact Or.inr (Or.inr rfl)) (QE.v (q_str)) (q_isX Xc.c (mem_x cx (by decide +kernel)) Xc.k (by exact rfl) M.isinstance (by exact rfl) (Xc.g _ (by decide +kernel)) (QE.v (qn 0)))) (qsd_cons (s_dput (i := 1) (hU1 hr) (by exact rfl) (by first | exact Or.inl rfl | exact Or.inr (Or.inl rfl) | exact Or.inr (Or.inr rfl)) (QE.v (q_str)) (q_isX Xc.c (mem_x cx (by decide +kernel)) Xc.k (by exact rfl) M.isinstance (by exact rfl) (Xc.g _ (by decide +kernel)) (QE.v (qn 0)))) (qsd_cons (s_dput (i := 1) (hU1 hr) (by exact rfl) (by first | exact Or.inl rfl | exact Or.inr (Or.inl rfl) | exact Or.inr (Or.inr rfl)) (QE.v (q_str)) (q_isX Xc.c (mem_x cx (by decide +kernel)) Xc.k (by exact rfl) M.isinstance (by exact rfl) (Xc.g _ (by decide +kernel)) (QE.v (qn 0)))) (qsd_cons (s_dput (i := 1) (hU1 hr) (by exact rfl) (by first | exact Or.inl rfl | exact Or.inr (Or.inl rfl) | exact Or.inr (Or.inr rfl)) (QE.v (q_str)) (q_isX Xc.c (mem_x cx (by decide +kernel)) Xc.k (by exact rfl) M.isinstance (by exact rfl) (Xc.g _ (by decide +kernel)) (QE.v (qn 0)))) (qsd_cons (s_dput (i := 1) (hU1 hr) (by exact rfl) (by first | exact Or.inl rfl | exact Or.inr (Or.inl rfl) | exact Or.inr (Or.inr rfl)) (QE.v (q_str)) (q_isX Xc.c (mem_x cx (by decide +kernel)) Xc.k (by exact rfl) M.isinstance (by exact rfl) (Xc.g _ (by decide +kernel)) (QE.v (qn 0)))) (qsd_cons (s_dput (i := 1) (hU1 hr) (by exact rfl) (by first | exact Or.inl rfl | exact Or.inr (Or.inl rfl) | exact Or.inr (Or.inr rfl)) (QE.v (q_str)) (q_isX Xc.c (mem_x cx (by decide +kernel)) Xc.k (by exact rfl) M.isinstance (by exact rfl) (Xc.g _ (by decide +kernel)) (QE.v (qn 0)))) (qsd_cons (s_dput (i := 1) (hU1 hr) (by exact rfl) (by first | exact Or.inl rfl | exact Or.inr (Or.inl rfl) | exact Or.inr (Or.inr rfl)) (QE.v (q_str)) (q_isX Xc.c (mem_x cx (by decide +kernel)) Xc.k (by exact rfl) M.isinstance (by exact rfl) (Xc.g _ (by decide +kernel)) (QE.v (qn 0)))) (qsd_cons (s_dput (i := 1) (hU1 hr) (by exact rfl) (by first | exact Or.inl rfl | exact Or.inr (Or.inl rfl) | exact Or.inr (Or.inr rfl)) (QE.v (q_str)) (q_isX Xc.c (mem_x cx (by decide +kernel)) Xc.k (by exact rfl) M.isinstance (by exact rfl) (Xc.g _ (by decide +kernel)) (QE.v (qn 0)))) (qsd_cons (s_dput (i := 1) (hU1 hr) (by exact rfl) (by first | exact Or.inl rfl | exact Or.inr (Or.inl rfl) | exact Or.inr (Or.inr rfl)) (QE.v (q_str)) (q_isX Xc.c (mem_x cx (by decide +kernel)) Xc.k (by exact rfl) M.isinstance (by exact rfl) (Xc.g _ (by decide +kernel)) (QE.v (qn 0)))) (qsd_cons (s_dput (i := 1) (hU1 hr) (by exact rfl) (by first | exact Or.inl rfl | exact Or.inr (Or.inl rfl) | exact Or.inr (Or.inr rfl)) (QE.v (q_str)) (q_isX Xc.c (mem_x cx (by decide +kernel)) Xc.k (by exact rfl) M.isinstance (by exact rfl) (Xc.g _ (by decide +kernel)) (QE.v (qn 0)))) (qsd_cons (s_dput (i := 1) (hU1 hr) (by exact rfl) (by first | exact Or.inl rfl | exact Or.inr (Or.inl rfl) | exact Or.inr (Or.inr rfl)) (QE.v (q_str)) (q_isX Xc.c (mem_x cx (by decide +kernel)) Xc.k (by exact rfl) M.isinstance (by exact rfl) (Xc.g _ (by decide +kernel)) (QE.v (qn 0)))) (qsd_cons (s_dput (i := 1) (hU1 hr) (by exact rfl) (by first | exact Or.inl rfl | exact Or.inr (Or.inl rfl) | exact Or.inr (Or.inr rfl)) (QE.v (q_str)) (q_isX Xc.c (mem_x cx (by decide +kernel)) Xc.k (by exact rfl) M.isinstance (by exact rfl) (Xc.g _ (by decide +kernel)) (QE.v (qn 0)))) (qsd_cons (s_dput (i := 1) (hU1 hr) (by exact rfl) (by first | exact Or.inl rfl | exact Or.inr (Or.inl rfl) | exact Or.inr (Or.inr rfl)) (QE.v (q_str)) (q_isX Xc.c (mem_x cx (by decide +kernel)) Xc.k (by exact rfl) M.isinstance (by exact rfl) (Xc.g _ (by decide +kernel)) (QE.v (qn 0)))) (qsd_cons (s_dput (i := 1) (hU1 hr) (by exact rfl) (by first | exact Or.inl rfl | exact Or.inr (Or.inl rfl) | exact Or.inr (Or.inr rfl)) (QE.v (q_str)) (q_isX Xc.c (mem_x cx (by decide +kernel)) Xc.k (by exact rfl) M.isinstance (by exact rfl) (Xc.g _ (by decide +kernel)) (QE.v (qn 0)))) (qsd_cons (s_dput (i := 1) (hU1 hr) (by exact rfl) (by first | exact Or.inl rfl | exact Or.inr (Or.inl rfl) | exact Or.inr (Or.inr rfl)) (QE.v (q_str)) (q_isX Xc.c (mem_x cx (by decide +kernel)) Xc.k (by exact rfl) M.isinstance (by exact rfl) (Xc.g _ (by decide +kernel)) (QE.v (qn 0)))) (qsd_cons (s_dput (i := 1) (hU1 hr) (by exact rfl) (by first | exact Or.inl rfl | exact Or.inr (Or.inl rfl) | exact Or.inr (Or.inr rfl)) (QE.v (q_str)) (q_isX Xc.c (mem_x cx (by decide +kernel)) Xc.k (by exact rfl) M.isinstance (by exact rfl) (Xc.g _ (by decide +kernel)) (QE.v (qn 0)))) (qsd_cons (s_dput (i := 1) (hU1 hr) (by exact rfl) (by first | exact Or.inl rfl | exact Or.inr (Or.inl rfl) | exact Or.inr (Or.inr rfl)) (QE.v (q_str)) (q_isX Xc.c (mem_x cx (by decide +kernel)) Xc.k (by exact rfl) M.isinstance (by exact rfl) (Xc.g _ (by decide +kernel)) (QE.v (qn 0)))) (qsd_cons (s_dput (i := 1) (hU1 hr) (by exact rfl) (by first | exact Or.inl rfl | exact Or.inr (Or.inl rfl) | exact Or.inr (Or.inr rfl)) (QE.v (q_str)) (q_isX Xc.c (mem_x cx (by decide +kernel)) Xc.k (by exact rfl) M.isinstance (by exact rfl) (Xc.g _ (by decide +kernel)) (QE.v (qn 0)))) (qsd_cons (s_dput (i := 1) (hU1 hr) (by exact rfl) (by first | exact Or.inl rfl | exact Or.inr (Or.inl rfl) | exact Or.inr (Or.inr rfl)) (QE.v (q_str)) (q_isX Xc.c (mem_x cx (by decide +kernel)) Xc.k (by exact rfl) M.isinstance (by exact rfl) (Xc.g _ (by decide +kernel)) (QE.v (qn 0)))) (qsd_cons (s_dput (i := 1) (hU1 hr) (by exact rfl) (by first | exact Or.inl rfl | exact Or.inr (Or.inl rfl) | exact Or.inr (Or.inr rfl)) (QE.v (q_str)) (q_isX Xc.c (mem_x cx (by decide +kernel)) Xc.k (by exact rfl) M.isinstance (by exact rfl) (Xc.g _ (by decide +kernel)) (QE.v (qn 0)))) (qsd_cons (s_dput (i := 1) (hU1 hr) (by exact rfl) (by first | exact Or.inl rfl | exact Or.inr (Or.inl rfl) | exact Or.inr (Or.inr rfl)) (QE.v (q_str)) (q_isX Xc.c (mem_x cx (by decide +kernel)) Xc.k (by exact rfl) M.isinstance (by exact rfl) (Xc.g _ (by decide +kernel)) (QE.v (qn 0)))) (qsd_cons (s_dput (i := 1) (hU1 hr) (by exact rfl) (by first | exact Or.inl rfl | exact Or.inr (Or.inl rfl) | exact Or.inr (Or.inr rfl)) (QE.v (q_str)) (q_isX Xc.c (mem_x cx (by decide +kernel)) Xc.k (by exact rfl) M.isinstance (by exact rfl) (Xc.g _ (by decide +kernel)) (QE.v (qn 0)))) (qsd_cons (s_dput (i := 1) (hU1 hr) (by exact rfl) (by first | exact Or.inl rfl | exact Or.inr (Or.inl rfl) | exact Or.inr (Or.inr rfl)) (QE.v (q_str)) (q_isX Xc.c (mem_x cx (by decide +kernel)) Xc.k (by exact rfl) M.isinstance (by exact rfl) (Xc.g _ (by decide +kernel)) (QE.v (qn 0)))) (qsd_cons (s_dput (i := 1) (hU1 hr) (by exact rfl) (by first | exact Or.inl rfl | exact Or.inr (Or.inl rfl) | exact Or.inr (Or.inr rfl)) (QE.v (q_str)) (q_isX Xc.c (mem_x cx (by decide +kernel)) Xc.k (by exact rfl) M.isinstance (by exact rfl) (Xc.g _ (by decide +kernel)) (QE.v (qn 0)))) (qsd_cons (s_dput (i := 1) (hU1 hr) (by exact rfl) (by first | exact Or.inl rfl | exact Or.inr (Or.inl rfl) | exact Or.inr (Or.inr rfl)) (QE.v (q_str)) (q_isX Xc.c (mem_x cx (by decide +kernel)) Xc.k (by exact rfl) M.isinstance (by exact rfl) (Xc.g _ (by decide +kernel)) (QE.v (qn 0)))) (qsd_cons (s_dput (i := 1) (hU1 hr) (by exact rfl) (by first | exact Or.inl rfl | exact Or.inr (Or.inl rfl) | exact Or.inr (Or.inr rfl)) (QE.v (q_str)) (q_isX Xc.c (mem_x cx (by decide +kernel)) Xc.k (by exact rfl) M.isinstance (by exact rfl) (Xc.g _ (by decide +kernel)) (QE.v (qn 0)))) (qsd_cons (s_dput (i := 1) (hU1 hr) (by exact rfl) (by first | exact Or.inl rfl | exact Or.inr (Or.inl rfl) | exact Or.inr (Or.inr rfl)) (QE.v (q_str)) (q_isX Xc.c (mem_x cx (by decide +kernel)) Xc.k (by exact rfl) M.isinstance (by exact rfl) (Xc.g _ (by decide +kernel)) (QE.v (qn 0)))) (qsd_cons (s_dput (i := 1) (hU1 hr) (by exact rfl) (by first | exact Or.inl rfl | exact Or.inr (Or.inl rfl) | exact Or.inr (Or.inr rfl)) (QE.v (q_str)) (q_isX Xc.c (mem_x cx (by decide +kernel)) Xc.k (by exact rfl) M.isinstance (by exact rfl) (Xc.g _ (by decide +kernel)) (QE.v (qn 0)))) (qsd_cons (s_dput (i := 1) (hU1 hr) (by exact rfl) (by first | exact Or.inl rfl | exact Or.inr (Or.inl rfl) | exact Or.inr (Or.inr rfl)) (QE.v (q_str)) (q_isX Xc.c (mem_x cx (by decide +kernel)) Xc.k (by exact rfl) M.isinstance (by exact rfl) (Xc.g _ (by decide +kernel)) (QE.v (qn 0)))) (qsd_cons (s_dput (i := 1) (hU1 hr) (by exact rfl) (by first | exact Or.inl rfl | exact Or.inr (Or.inl rfl) | exact Or.inr (Or.inr rfl)) (QE.v (q_str)) (q_isX Xc.c (mem_x cx (by decide +kernel)) Xc.k (by exact rfl) M.isinstance (by exact rfl) (Xc.g _ (by decide +kernel)) (QE.v (qn 0)))) (qsd_ret (i := 1) (by exact rfl) (by first | exact Or.inl rfl | exact Or.inr (Or.inl rfl) | exact Or.inr (Or.inr rfl)))))))))))))))))))))))))))))))))))
def N__law_marks : List Str := ["error", "found"]
def g__law_marks (cx : Str → Addr) : DenD := dSeqD (fPut 1 (zDic (dCallD (F__law_marks_first cx) (dCons (dName 0) (dNil))))) (dSeqD (fDPut 1 (dK (.str "BadSpots")) (d1 (fIsX (cx "ParkError") (allX nX cx) (cx "BadSpots")) (dName 0))) (dSeqD (fDPut 1 (dK (.str "BadTurning")) (d1 (fIsX (cx "ParkError") (allX nX cx) (cx "BadTurning")) (dName 0))) (dSeqD (fDPut 1 (dK (.str "BadWood")) (d1 (fIsX (cx "ParkError") (allX nX cx) (cx "BadWood")) (dName 0))) (dSeqD (fDPut 1 (dK (.str "Bridge")) (d1 (fIsX (cx "ParkError") (allX nX cx) (cx "Bridge")) (dName 0))) (dSeqD (fDPut 1 (dK (.str "CutOff")) (d1 (fIsX (cx "ParkError") (allX nX cx) (cx "CutOff")) (dName 0))) (dSeqD (fDPut 1 (dK (.str "Full")) (d1 (fIsX (cx "ParkError") (allX nX cx) (cx "Full")) (dName 0))) (dSeqD (fDPut 1 (dK (.str "Joined")) (d1 (fIsX (cx "ParkError") (allX nX cx) (cx "Joined")) (dName 0))) (dSeqD (fDPut 1 (dK (.str "Known")) (d1 (fIsX (cx "ParkError") (allX nX cx) (cx "Known")) (dName 0))) (dSeqD (fDPut 1 (dK (.str "Late")) (d1 (fIsX (cx "ParkError") (allX nX cx) (cx "Late")) (dName 0))) (dSeqD (fDPut 1 (dK (.str "Meets")) (d1 (fIsX (cx "ParkError") (allX nX cx) (cx "Meets")) (dName 0))) (dSeqD (fDPut 1 (dK (.str "NoFull")) (d1 (fIsX (cx "ParkError") (allX nX cx) (cx "NoFull")) (dName 0))) (dSeqD (fDPut 1 (dK (.str "NoGate")) (d1 (fIsX (cx "ParkError") (allX nX cx) (cx "NoGate")) (dName 0))) (dSeqD (fDPut 1 (dK (.str "NoPark")) (d1 (fIsX (cx "ParkError") (allX nX cx) (cx "NoPark")) (dName 0))) (dSeqD (fDPut 1 (dK (.str "NoPath")) (d1 (fIsX (cx "ParkError") (allX nX cx) (cx "NoPath")) (dName 0))) (dSeqD (fDPut 1 (dK (.str "NoTrial")) (d1 (fIsX (cx "ParkError") (allX nX cx) (cx "NoTrial")) (dName 0))) (dSeqD (fDPut 1 (dK (.str "NotBeside")) (d1 (fIsX (cx "ParkError") (allX nX cx) (cx "NotBeside")) (dName 0))) (dSeqD (fDPut 1 (dK (.str "NotClear")) (d1 (fIsX (cx "ParkError") (allX nX cx) (cx "NotClear")) (dName 0))) (dSeqD (fDPut 1 (dK (.str "NotFlat")) (d1 (fIsX (cx "ParkError") (allX nX cx) (cx "NotFlat")) (dName 0))) (dSeqD (fDPut 1 (dK (.str "NotFull")) (d1 (fIsX (cx "ParkError") (allX nX cx) (cx "NotFull")) (dName 0))) (dSeqD (fDPut 1 (dK (.str "NotOuter")) (d1 (fIsX (cx "ParkError") (allX nX cx) (cx "NotOuter")) (dName 0))) (dSeqD (fDPut 1 (dK (.str "NotSo")) (d1 (fIsX (cx "ParkError") (allX nX cx) (cx "NotSo")) (dName 0))) (dSeqD (fDPut 1 (dK (.str "NotStack")) (d1 (fIsX (cx "ParkError") (allX nX cx) (cx "NotStack")) (dName 0))) (dSeqD (fDPut 1 (dK (.str "NotThere")) (d1 (fIsX (cx "ParkError") (allX nX cx) (cx "NotThere")) (dName 0))) (dSeqD (fDPut 1 (dK (.str "NotTwo")) (d1 (fIsX (cx "ParkError") (allX nX cx) (cx "NotTwo")) (dName 0))) (dSeqD (fDPut 1 (dK (.str "NothingToRedo")) (d1 (fIsX (cx "ParkError") (allX nX cx) (cx "NothingToRedo")) (dName 0))) (dSeqD (fDPut 1 (dK (.str "NothingToUndo")) (d1 (fIsX (cx "ParkError") (allX nX cx) (cx "NothingToUndo")) (dName 0))) (dSeqD (fDPut 1 (dK (.str "Same")) (d1 (fIsX (cx "ParkError") (allX nX cx) (cx "Same")) (dName 0))) (dSeqD (fDPut 1 (dK (.str "Short")) (d1 (fIsX (cx "ParkError") (allX nX cx) (cx "Short")) (dName 0))) (dSeqD (fDPut 1 (dK (.str "TooFew")) (d1 (fIsX (cx "ParkError") (allX nX cx) (cx "TooFew")) (dName 0))) (dSeqD (fDPut 1 (dK (.str "TooMany")) (d1 (fIsX (cx "ParkError") (allX nX cx) (cx "TooMany")) (dName 0))) (dSeqD (fDPut 1 (dK (.str "Uneven")) (d1 (fIsX (cx "ParkError") (allX nX cx) (cx "Uneven")) (dName 0))) (dSeqD (fDPut 1 (dK (.str "Unlike")) (d1 (fIsX (cx "ParkError") (allX nX cx) (cx "Unlike")) (dName 0))) (oDic 1)))))))))))))))))))))))))))))))))
def F__law_marks (cx : Str → Addr) : List D → Option (List (Key × D)) := fun ds => if ds.length = 1 then g__law_marks cx (rho0 2 ds) else none
theorem W__law_marks (cx : Str → Addr) (M : Mg mg) (Df : DefF K mg "_law_marks" (top 75)) (W__law_marks_first : Fn P w K mg base 1 "_law_marks_first" (spQD (F__law_marks_first cx))) (Xc : ExX K mg base nX "ParkError" cx) : Fn P w K mg base 2 "_law_marks" (spQD (F__law_marks cx)) :=
  Df.fn (ps := ["error"]) (fun _ _ _ _ _ _ us hl => match us, hl with | [_], _ => rfl) fun f fd Fd =>
  fn_qD (N := N__law_marks) (G := g__law_marks cx) Fd (C8.fnScope_by (by decide +kernel)) (hFD_of 1 2 rfl rfl) fun cdv A outer s H E hr => by
    have nd : (cxOf L2.CX0 P w K mg base N__law_marks "_law_marks" (defScope (top 75)) f cdv A outer s H E).nox.N.Nodup := (by decide : (N__law_marks).Nodup)
    exact qsd_cons (s_put (i := 1) nd (by exact rfl) (by first | exact Or.inl rfl | exact Or.inr rfl) (QK.z (k_call W__law_marks_first (hr.mono (by decide)) (by exact rfl) (ql_cons (qn 0) (ql_nil))))) (qsd_cons (s_dput (i := 1) (hU1 hr) (by exact rfl) (by first | exact Or.inl rfl | exact Or.inr (Or.inl rfl) | exact Or.inr (Or.inr rfl)) (QE.v (q_str)) (q_isX Xc.c (mem_x cx (by decide +kernel)) Xc.k (by exact rfl) M.isinstance (by exact rfl) (Xc.g _ (by decide +kernel)) (QE.v (qn 0)))) (qsd_cons (s_dput (i := 1) (hU1 hr) (by exact rfl) (by first | exact Or.inl rfl | exact Or.inr (Or.inl rfl) | exact Or.inr (Or.inr rfl)) (QE.v (q_str)) (q_isX Xc.c (mem_x cx (by decide +kernel)) Xc.k (by exact rfl) M.isinstance (by exact rfl) (Xc.g _ (by decide +kernel)) (QE.v (qn 0)))) (qsd_cons (s_dput (i := 1) (hU1 hr) (by exact rfl) (by first | exact Or.inl rfl | exact Or.inr (Or.inl rfl) | exact Or.inr (Or.inr rfl)) (QE.v (q_str)) (q_isX Xc.c (mem_x cx (by decide +kernel)) Xc.k (by exact rfl) M.isinstance (by exact rfl) (Xc.g _ (by decide +kernel)) (QE.v (qn 0)))) (qsd_cons (s_dput (i := 1) (hU1 hr) (by exact rfl) (by first | exact Or.inl rfl | exact Or.inr (Or.inl rfl) | exact Or.inr (Or.inr rfl)) (QE.v (q_str)) (q_isX Xc.c (mem_x cx (by decide +kernel)) Xc.k (by exact rfl) M.isinstance (by exact rfl) (Xc.g _ (by decide +kernel)) (QE.v (qn 0)))) (qsd_cons (s_dput (i := 1) (hU1 hr) (by exact rfl) (by first | exact Or.inl rfl | exact Or.inr (Or.inl rfl) | exact Or.inr (Or.inr rfl)) (QE.v (q_str)) (q_isX Xc.c (mem_x cx (by decide +kernel)) Xc.k (by exact rfl) M.isinstance (by exact rfl) (Xc.g _ (by decide +kernel)) (QE.v (qn 0)))) (qsd_cons (s_dput (i := 1) (hU1 hr) (by exact rfl) (by first | exact Or.inl rfl | exact Or.inr (Or.inl rfl) | exact Or.inr (Or.inr rfl)) (QE.v (q_str)) (q_isX Xc.c (mem_x cx (by decide +kernel)) Xc.k (by exact rfl) M.isinstance (by exact rfl) (Xc.g _ (by decide +kernel)) (QE.v (qn 0)))) (qsd_cons (s_dput (i := 1) (hU1 hr) (by exact rfl) (by first | exact Or.inl rfl | exact Or.inr (Or.inl rfl) | exact Or.inr (Or.inr rfl)) (QE.v (q_str)) (q_isX Xc.c (mem_x cx (by decide +kernel)) Xc.k (by exact rfl) M.isinstance (by exact rfl) (Xc.g _ (by decide +kernel)) (QE.v (qn 0)))) (qsd_cons (s_dput (i := 1) (hU1 hr) (by exact rfl) (by first | exact Or.inl rfl | exact Or.inr (Or.inl rfl) | exact Or.inr (Or.inr rfl)) (QE.v (q_str)) (q_isX Xc.c (mem_x cx (by decide +kernel)) Xc.k (by exact rfl) M.isinstance (by exact rfl) (Xc.g _ (by decide +kernel)) (QE.v (qn 0)))) (qsd_cons (s_dput (i := 1) (hU1 hr) (by exact rfl) (by first | exact Or.inl rfl | exact Or.inr (Or.inl rfl) | exact Or.inr (Or.inr rfl)) (QE.v (q_str)) (q_isX Xc.c (mem_x cx (by decide +kernel)) Xc.k (by exact rfl) M.isinstance (by exact rfl) (Xc.g _ (by decide +kernel)) (QE.v (qn 0)))) (qsd_cons (s_dput (i := 1) (hU1 hr) (by exact rfl) (by first | exact Or.inl rfl | exact Or.inr (Or.inl rfl) | exact Or.inr (Or.inr rfl)) (QE.v (q_str)) (q_isX Xc.c (mem_x cx (by decide +kernel)) Xc.k (by exact rfl) M.isinstance (by exact rfl) (Xc.g _ (by decide +kernel)) (QE.v (qn 0)))) (qsd_cons (s_dput (i := 1) (hU1 hr) (by exact rfl) (by first | exact Or.inl rfl | exact Or.inr (Or.inl rfl) | exact Or.inr (Or.inr rfl)) (QE.v (q_str)) (q_isX Xc.c (mem_x cx (by decide +kernel)) Xc.k (by exact rfl) M.isinstance (by exact rfl) (Xc.g _ (by decide +kernel)) (QE.v (qn 0)))) (qsd_cons (s_dput (i := 1) (hU1 hr) (by exact rfl) (by first | exact Or.inl rfl | exact Or.inr (Or.inl rfl) | exact Or.inr (Or.inr rfl)) (QE.v (q_str)) (q_isX Xc.c (mem_x cx (by decide +kernel)) Xc.k (by exact rfl) M.isinstance (by exact rfl) (Xc.g _ (by decide +kernel)) (QE.v (qn 0)))) (qsd_cons (s_dput (i := 1) (hU1 hr) (by exact rfl) (by first | exact Or.inl rfl | exact Or.inr (Or.inl rfl) | exact Or.inr (Or.inr rfl)) (QE.v (q_str)) (q_isX Xc.c (mem_x cx (by decide +kernel)) Xc.k (by exact rfl) M.isinstance (by exact rfl) (Xc.g _ (by decide +kernel)) (QE.v (qn 0)))) (qsd_cons (s_dput (i := 1) (hU1 hr) (by exact rfl) (by first | exact Or.inl rfl | exact Or.inr (Or.inl rfl) | exact Or.inr (Or.inr rfl)) (QE.v (q_str)) (q_isX Xc.c (mem_x cx (by decide +kernel)) Xc.k (by exact rfl) M.isinstance (by exact rfl) (Xc.g _ (by decide +kernel)) (QE.v (qn 0)))) (qsd_cons (s_dput (i := 1) (hU1 hr) (by exact rfl) (by first | exact Or.inl rfl | exact Or.inr (Or.inl rfl) | exact Or.inr (Or.inr rfl)) (QE.v (q_str)) (q_isX Xc.c (mem_x cx (by decide +kernel)) Xc.k (by exact rfl) M.isinstance (by exact rfl) (Xc.g _ (by decide +kernel)) (QE.v (qn 0)))) (qsd_cons (s_dput (i := 1) (hU1 hr) (by exact rfl) (by first | exact Or.inl rfl | exact Or.inr (Or.inl rfl) | exact Or.inr (Or.inr rfl)) (QE.v (q_str)) (q_isX Xc.c (mem_x cx (by decide +kernel)) Xc.k (by exact rfl) M.isinstance (by exact rfl) (Xc.g _ (by decide +kernel)) (QE.v (qn 0)))) (qsd_cons (s_dput (i := 1) (hU1 hr) (by exact rfl) (by first | exact Or.inl rfl | exact Or.inr (Or.inl rfl) | exact Or.inr (Or.inr rfl)) (QE.v (q_str)) (q_isX Xc.c (mem_x cx (by decide +kernel)) Xc.k (by exact rfl) M.isinstance (by exact rfl) (Xc.g _ (by decide +kernel)) (QE.v (qn 0)))) (qsd_cons (s_dput (i := 1) (hU1 hr) (by exact rfl) (by first | exact Or.inl rfl | exact Or.inr (Or.inl rfl) | exact Or.inr (Or.inr rfl)) (QE.v (q_str)) (q_isX Xc.c (mem_x cx (by decide +kernel)) Xc.k (by exact rfl) M.isinstance (by exact rfl) (Xc.g _ (by decide +kernel)) (QE.v (qn 0)))) (qsd_cons (s_dput (i := 1) (hU1 hr) (by exact rfl) (by first | exact Or.inl rfl | exact Or.inr (Or.inl rfl) | exact Or.inr (Or.inr rfl)) (QE.v (q_str)) (q_isX Xc.c (mem_x cx (by decide +kernel)) Xc.k (by exact rfl) M.isinstance (by exact rfl) (Xc.g _ (by decide +kernel)) (QE.v (qn 0)))) (qsd_cons (s_dput (i := 1) (hU1 hr) (by exact rfl) (by first | exact Or.inl rfl | exact Or.inr (Or.inl rfl) | exact Or.inr (Or.inr rfl)) (QE.v (q_str)) (q_isX Xc.c (mem_x cx (by decide +kernel)) Xc.k (by exact rfl) M.isinstance (by exact rfl) (Xc.g _ (by decide +kernel)) (QE.v (qn 0)))) (qsd_cons (s_dput (i := 1) (hU1 hr) (by exact rfl) (by first | exact Or.inl rfl | exact Or.inr (Or.inl rfl) | exact Or.inr (Or.inr rfl)) (QE.v (q_str)) (q_isX Xc.c (mem_x cx (by decide +kernel)) Xc.k (by exact rfl) M.isinstance (by exact rfl) (Xc.g _ (by decide +kernel)) (QE.v (qn 0)))) (qsd_cons (s_dput (i := 1) (hU1 hr) (by exact rfl) (by first | exact Or.inl rfl | exact Or.inr (Or.inl rfl) | exact Or.inr (Or.inr rfl)) (QE.v (q_str)) (q_isX Xc.c (mem_x cx (by decide +kernel)) Xc.k (by exact rfl) M.isinstance (by exact rfl) (Xc.g _ (by decide +kernel)) (QE.v (qn 0)))) (qsd_cons (s_dput (i := 1) (hU1 hr) (by exact rfl) (by first | exact Or.inl rfl | exact Or.inr (Or.inl rfl) | exact Or.inr (Or.inr rfl)) (QE.v (q_str)) (q_isX Xc.c (mem_x cx (by decide +kernel)) Xc.k (by exact rfl) M.isinstance (by exact rfl) (Xc.g _ (by decide +kernel)) (QE.v (qn 0)))) (qsd_cons (s_dput (i := 1) (hU1 hr) (by exact rfl) (by first | exact Or.inl rfl | exact Or.inr (Or.inl rfl) | exact Or.inr (Or.inr rfl)) (QE.v (q_str)) (q_isX Xc.c (mem_x cx (by decide +kernel)) Xc.k (by exact rfl) M.isinstance (by exact rfl) (Xc.g _ (by decide +kernel)) (QE.v (qn 0)))) (qsd_cons (s_dput (i := 1) (hU1 hr) (by exact rfl) (by first | exact Or.inl rfl | exact Or.inr (Or.inl rfl) | exact Or.inr (Or.inr rfl)) (QE.v (q_str)) (q_isX Xc.c (mem_x cx (by decide +kernel)) Xc.k (by exact rfl) M.isinstance (by exact rfl) (Xc.g _ (by decide +kernel)) (QE.v (qn 0)))) (qsd_cons (s_dput (i := 1) (hU1 hr) (by exact rfl) (by first | exact Or.inl rfl | exact Or.inr (Or.inl rfl) | exact Or.inr (Or.inr rfl)) (QE.v (q_str)) (q_isX Xc.c (mem_x cx (by decide +kernel)) Xc.k (by exact rfl) M.isinstance (by exact rfl) (Xc.g _ (by decide +kernel)) (QE.v (qn 0)))) (qsd_cons (s_dput (i := 1) (hU1 hr) (by exact rfl) (by first | exact Or.inl rfl | exact Or.inr (Or.inl rfl) | exact Or.inr (Or.inr rfl)) (QE.v (q_str)) (q_isX Xc.c (mem_x cx (by decide +kernel)) Xc.k (by exact rfl) M.isinstance (by exact rfl) (Xc.g _ (by decide +kernel)) (QE.v (qn 0)))) (qsd_cons (s_dput (i := 1) (hU1 hr) (by exact rfl) (by first | exact Or.inl rfl | exact Or.inr (Or.inl rfl) | exact Or.inr (Or.inr rfl)) (QE.v (q_str)) (q_isX Xc.c (mem_x cx (by decide +kernel)) Xc.k (by exact rfl) M.isinstance (by exact rfl) (Xc.g _ (by decide +kernel)) (QE.v (qn 0)))) (qsd_cons (s_dput (i := 1) (hU1 hr) (by exact rfl) (by first | exact Or.inl rfl | exact Or.inr (Or.inl rfl) | exact Or.inr (Or.inr rfl)) (QE.v (q_str)) (q_isX Xc.c (mem_x cx (by decide +kernel)) Xc.k (by exact rfl) M.isinstance (by exact rfl) (Xc.g _ (by decide +kernel)) (QE.v (qn 0)))) (qsd_cons (s_dput (i := 1) (hU1 hr) (by exact rfl) (by first | exact Or.inl rfl | exact Or.inr (Or.inl rfl) | exact Or.inr (Or.inr rfl)) (QE.v (q_str)) (q_isX Xc.c (mem_x cx (by decide +kernel)) Xc.k (by exact rfl) M.isinstance (by exact rfl) (Xc.g _ (by decide +kernel)) (QE.v (qn 0)))) (qsd_cons (s_dput (i := 1) (hU1 hr) (by exact rfl) (by first | exact Or.inl rfl | exact Or.inr (Or.inl rfl) | exact Or.inr (Or.inr rfl)) (QE.v (q_str)) (q_isX Xc.c (mem_x cx (by decide +kernel)) Xc.k (by exact rfl) M.isinstance (by exact rfl) (Xc.g _ (by decide +kernel)) (QE.v (qn 0)))) (qsd_cons (s_dput (i := 1) (hU1 hr) (by exact rfl) (by first | exact Or.inl rfl | exact Or.inr (Or.inl rfl) | exact Or.inr (Or.inr rfl)) (QE.v (q_str)) (q_isX Xc.c (mem_x cx (by decide +kernel)) Xc.k (by exact rfl) M.isinstance (by exact rfl) (Xc.g _ (by decide +kernel)) (QE.v (qn 0)))) (qsd_ret (i := 1) (by exact rfl) (by first | exact Or.inl rfl | exact Or.inr (Or.inl rfl) | exact Or.inr (Or.inr rfl)))))))))))))))))))))))))))))))))))
def N__law_is_right : List Str := ["name", "made", "value", "marks", "kept", "error", "one"]
def g__law_is_right (FL : LF → List D → Option D) (cx : Str → Addr) : Rho → Option Out := fSeq (fPut2 4 5 (zR (d1 fRepr (dName 2))) (zR (dCallL 1 FL (dCons (dName 2) (dNil))))) (fSeq (fIf (dOr (dT (d2 (fEq true) (d1 fRepr (d1 (fVal (allX nX cx)) (dName 5))) (dName 4))) (dOr (dNot (dT (d1 (fIsX (cx "ParkError") (allX nX cx) (cx "ParkError")) (dName 5)))) (dNot (dT (d1 (fIsVE (allX nX cx)) (dName 5)))))) (fRet (dK (.bl false))) (fNext)) (fSeq (fAsg (bName 3) (dDic (dCallD (F__law_marks cx) (dCons (dName 5) (dNil))))) (fRet (dAndV (d2 fEqA (dLst (dComp [6] (dKeysN 3) (bName 6) (dT (d2 fIx (dName 3) (dName 6))) (dName 6))) (dLst (dDisp (dCons (dName 0) (dNil))))) (d2 fEqA (d1 fRepr (dName 2)) (dName 4))))))
def F__law_is_right (FL : LF → List D → Option D) (cx : Str → Addr) : List D → Option D := fun ds => if ds.length = 3 then (g__law_is_right FL cx (rho0 7 ds)).bind outD else none
theorem W__law_is_right (FL : LF → List D → Option D) (cx : Str → Addr) (M : Mg mg) (Df : DefF K mg "_law_is_right" (top 76)) (W__law_marks : Fn P w K mg base 2 "_law_marks" (spQD (F__law_marks cx))) (Xc : ExX K mg base nX "ParkError" cx) (okL : ∀ L ds d, FL L ds = some d → ∃ ps, LamOk P w K mg base L2.CX0 3 L ps (spQ (FL L))) : FnG P w K mg base 4 "_law_is_right" (spQ (F__law_is_right FL cx)) :=
  Df.fnG (ps := ["name", "made", "value"]) (fun _ _ _ _ _ _ us hl => match us, hl with | [_, _, _], _ => rfl) fun f fd Fd =>
  fn_qG (N := N__law_is_right) (G := g__law_is_right FL cx) Fd (C8.fnScope_by (by decide +kernel)) (hF_of 3 7 rfl rfl) fun cdv A outer s H E hr hgd => by
    have nd : (cxOf L2.CX0 P w K mg base N__law_is_right "_law_is_right" (defScope (top 76)) f cdv A outer s H E).nox.N.Nodup := (by decide : (N__law_is_right).Nodup)
    exact ss_cons (s_par (i := 4) (j := 5) (by exact rfl) nd (by exact rfl) (by exact rfl) (by decide) (by exact rfl) (by exact rfl) (QE.z (q_repr hgd (hU hr) Xc.sys (by exact rfl) M.repr (qn 2))) (QE.z (q_callL (i := 1) okL (hr.mono (by decide)) (by exact rfl) (by first | exact Or.inl rfl | exact Or.inr (Or.inl rfl) | exact Or.inr (Or.inr rfl)) (ql_cons (qn 2) (ql_nil)))) (by exact rfl)) (ss_cons (s_if (QW.t (w_or (t_cmp (op_neD' (hU hr)) (b2_ne _) (QE.v (q_repr hgd (hU hr) Xc.sys (by exact rfl) M.repr (q_xv Xc.c (QE.v (qn 5))))) (QE.v (qn 4)) (nomark _)) (w_or (t_not (t_val (q_isX Xc.c (mem_x cx (by decide +kernel)) Xc.k (by exact rfl) M.isinstance (by exact rfl) (Xc.g _ (by decide +kernel)) (QE.v (qn 5))))) (w_or1 (t_not (t_val (q_isVE Xc.c Xc.k (by exact rfl) M.isinstance (by exact rfl) Xc.ve (QE.v (qn 5))))))))) (ss_one (s_ret (q_bl))) (ss_nil)) (ss_cons (s_set (i := 3) nd (by exact rfl) (by first | exact Or.inl rfl | exact Or.inr rfl) (QK.e (k_call W__law_marks (hr.mono (by decide)) (by exact rfl) (ql_cons (qn 5) (ql_nil))))) (ss_one (s_ret (q_and (q_cmp (op_eqAll (hU hr)) (b2_eqAll _) (QE.v (QF.e (f_lcK (i := 3) (by exact rfl) (by first | exact Or.inl rfl | exact Or.inr (Or.inl rfl) | exact Or.inr (Or.inr rfl)) (by exact rfl) nd (own := [("one", 6)]) (blkOk_by (by kernel_rfl)) (fun _ _ _ _ _ => qg_name (i := 6) nd (by exact rfl) (by first | exact Or.inl rfl | exact Or.inr rfl)) (fun _ _ _ _ _ => qts_one (t_val (q_ix (hU1 hr) (QE.v (qn 3)) (QE.v (qn 6))))) (fun _ _ _ _ _ => qn 6) (by decide)))) (QE.v (QF.e (f_lst (ql_cons (qn 0) (ql_nil))))) (nomark _)) (q_one (q_cmp (op_eqAll (hU hr)) (b2_eqAll _) (QE.v (q_repr hgd (hU hr) Xc.sys (by exact rfl) M.repr (qn 2))) (QE.v (qn 4)) (nomark _))))))))
def N__law_right : List Str := ["pot", "base", "name", "made", "value", "one"]
def gb__law_right : D → Rho → Option Rho := (bTup 2 (bCons (bName 2) (bCons (bName 3) bNil)))
def gF__law_right (FL : LF → List D → Option D) (cx : Str → Addr) (p : Addr) : TSt := xFor (xWalk (xLst (xDisp (xCons (xCall p 0 (R__law_odd) (xNil)) (xCons (xCall p 0 (R__law_odd) (xNil)) (xCons (lE (dTup (dCons (dK (.int 1)) (dCons (dTup (dCons (dK (.int 2)) (dCons (dK (.str "a")) (dNil)))) (dNil))))) (xCons (lE (dK (.str "x y"))) (xNil)))))))) (bName 4) (lS (fIf (dNot (dT (dCall (F__law_is_right FL cx) (dCons (dName 2) (dCons (dName 3) (dCons (dName 4) (dNil))))))) (fRet (dK (.bl false))) (fNext)))
def gG__law_right (FL : LF → List D → Option D) (cx : Str → Addr) (p : Addr) : TSt := xSeq (xAsg (bName 1) (x1 (fMkX (cx "ParkError")) (xCall p 0 (R__law_odd) (xNil)))) (lS (fRet (dAndV (dNotV (d1 fAny (dLst (dComp [5] (dKeys (dCallD (F__law_marks cx) (dCons (dName 1) (dNil)))) (bName 5) (dYes) (d2 fIx (dDic (dCallD (F__law_marks cx) (dCons (dName 1) (dNil)))) (dName 5)))))) (d1 (fIsVE (allX nX cx)) (dName 1)))))
def R__law_right (FL : LF → List D → Option D) (cx : Str → Addr) (xs : List (Str × LF)) : Addr → Nat → (Bool → Nat → Prop) → Prop := fun p c Q => loopX gb__law_right (gF__law_right FL cx p) (pairsL xs) (rho0 6 [.raw (.ref p)]) c (seqMade (gG__law_right FL cx p) fun o c1 => ∃ t, outD o = some (.bl t) ∧ Q t c1)
theorem W__law_right (FL : LF → List D → Option D) (cx : Str → Addr) (M : Mg mg) (Df : DefF K mg "_law_right" (top 77)) {T : List (Addr × Str)} {xs : List (Str × LF)} (W__law_made : Fn P w K mg base 2 "_law_made" (spMade T xs)) (W__law_odd : Fn P w K mg base 3 "_law_odd" (spX (R__law_odd))) (W__law_is_right : FnG P w K mg base 4 "_law_is_right" (spQ (F__law_is_right FL cx))) (W__law_marks : Fn P w K mg base 2 "_law_marks" (spQD (F__law_marks cx))) (Xc : ExX K mg base nX "ParkError" cx) (Xi : ExI P w K mg base nX "ParkError" cx) : FnG P w K mg base 5 "_law_right" (spR T (R__law_right FL cx xs)) :=
  Df.fnG (ps := ["pot"]) (fun _ _ _ _ _ _ us hl => match us, hl with | [_], _ => rfl) fun f fd Fd =>
  fn_right (N := N__law_right) (b := gb__law_right) (F := gF__law_right FL cx) (G := gG__law_right FL cx) Fd (C8.fnScope_by (by decide +kernel)) fun p cdv A outer s H E hr hgd => by
    have nd : (cxOf L2.CX0 P w K mg base N__law_right "_law_right" (defScope (top 77)) f cdv A outer s H E).nox.N.Nodup := (by decide : (N__law_right).Nodup)
    exact xss_right (xs_forMade W__law_made (hr.mono (by decide)) (by exact rfl) PassesOwn.never (by exact rfl) (qg_tup (by exact rfl) (qgs_cons (qg_name (i := 2) nd (by exact rfl) (by first | exact Or.inl rfl | exact Or.inr rfl)) (qgs_cons (qg_name (i := 3) nd (by exact rfl) (by first | exact Or.inl rfl | exact Or.inr rfl)) (qgs_nil)))) (xss_one (xs_for PassesOwn.never (by exact rfl) (xi_seq (XF.e (xf_lst (xl_cons (x_call (i := 0) W__law_odd (hr.mono (by first | decide | omega)) (by exact rfl) (by exact rfl) (by first | exact Or.inl rfl | exact Or.inr (Or.inl rfl) | exact Or.inr (Or.inr rfl)) (xl_nil)) (xl_cons (x_call (i := 0) W__law_odd (hr.mono (by first | decide | omega)) (by exact rfl) (by exact rfl) (by first | exact Or.inl rfl | exact Or.inr (Or.inl rfl) | exact Or.inr (Or.inr rfl)) (xl_nil)) (xl_cons (QE.x (q_tup (ql_cons (q_int) (ql_cons (q_tup (ql_cons (q_int) (ql_cons (q_str) (ql_nil)))) (ql_nil))))) (xl_cons (QE.x (q_str)) (xl_nil)))))))) (qg_name (i := 4) nd (by exact rfl) (by first | exact Or.inl rfl | exact Or.inr rfl)) (xss_one (QS.x (s_if (t_not (t_val (q_callG W__law_is_right (hr.mono (by decide)) hgd (by exact rfl) (ql_cons (qn 2) (ql_cons (qn 3) (ql_cons (qn 4) (ql_nil))))))) (ss_one (s_ret (q_bl))) (ss_nil))))))) (xss_cons (xs_set (i := 1) nd (by exact rfl) (by first | exact Or.inl rfl | exact Or.inr rfl) (x_mkE Xi Xc (by decide +kernel) (hr.mono (by decide)) (by exact rfl) (x_call (i := 0) W__law_odd (hr.mono (by first | decide | omega)) (by exact rfl) (by exact rfl) (by first | exact Or.inl rfl | exact Or.inr (Or.inl rfl) | exact Or.inr (Or.inr rfl)) (xl_nil)))) (xss_one (QS.x (s_ret (q_and (q_not (q_callB (cr_any (by exact rfl)) (b1_any _) (by exact rfl) M.any (by decide +kernel) (QE.v (QF.e (f_lc (by exact rfl) nd (own := [("one", 5)]) (blkOk_by (by kernel_rfl)) (qiv_keysF (k_call W__law_marks (hr.mono (by decide)) (by exact rfl) (ql_cons (qn 1) (ql_nil)))) (fun _ _ _ _ _ => qg_name (i := 5) nd (by exact rfl) (by first | exact Or.inl rfl | exact Or.inr rfl)) (fun _ _ _ _ _ => qts_nil) (fun _ _ _ _ _ => q_ix (hU1 hr) (QE.v (QK.e (k_call W__law_marks (hr.mono (by decide)) (by exact rfl) (ql_cons (qn 1) (ql_nil))))) (QE.v (qn 5))) (by decide)))))) (q_one (q_isVE Xc.c Xc.k (by exact rfl) M.isinstance (by exact rfl) Xc.ve (QE.v (qn 1)))))))))
end
end G
set_option Elab.async false
set_option linter.all false
set_option maxRecDepth 100000
set_option maxHeartbeats 2000000
namespace G
open PySem PySem.Spec PyProof.Rows L2 LY PySem.Calls LamX NdefX
section
variable {P : Program} {w : World} {K : PySem.W.Frag} {mg : Str → Option Value} {base : Heap}
/-- the lambda of found.append((name, lambda ..)) -/
def lamAt (q : Str) : Stmt → List (Str × LF)
  | .Expr (.Call (.Attribute _ _ _) [.Tuple [.Constant (.str n) _ _, .Lambda params body scope _] _ _] [] _) _ => [(n, ⟨q, params, body, scope⟩)]
  | _ => []
def lamsOf (q : Str) (l : List Stmt) : List (Str × LF) := l.flatMap (lamAt q)
def xs__law_made_first : List (Str × LF) := lamsOf "_law_made_first.<locals>.<lambda>" (defBody (top 72))
theorem W__law_made_first {c Pt : Addr} {T : List (Addr × Str)} (TB : TabB base mg c Pt) (hm : (Pt, ("_law_made_first.<locals>.<lambda>" : Str)) ∈ T) (hu : ∀ p ∈ T, p.1 = Pt → p.2 = ("_law_made_first.<locals>.<lambda>" : Str)) {f : Addr} {fd : FuncData} (Fd : FunD K "_law_made_first" "_law_made_first" (defArgs (top 72)) (defBody (top 72)) (defScope (top 72)) [] [] f fd) (hc : fd.code = .ref c) :
    FnOk P w K mg base L2.CX0 1 f fd [] (spMade T xs__law_made_first) :=
  fn_madeC (y := "found") Fd hc (C8.fnScope_by (by decide +kernel)) (by decide +kernel) fun A outer s H E hr => by
    exact md_start0 (by exact (by decide : (["found"] : List Str).Nodup)) rfl (.inl rfl) (md_cons (ps_md rfl (.inl rfl) TB rfl hm hu rfl (by decide) rfl) (md_cons (ps_md rfl (.inl rfl) TB rfl hm hu rfl (by decide) rfl) (md_cons (ps_md rfl (.inl rfl) TB rfl hm hu rfl (by decide) rfl) (md_cons (ps_md rfl (.inl rfl) TB rfl hm hu rfl (by decide) rfl) (md_cons (ps_md rfl (.inl rfl) TB rfl hm hu rfl (by decide) rfl) (md_cons (ps_md rfl (.inl rfl) TB rfl hm hu rfl (by decide) rfl) (md_cons (ps_md rfl (.inl rfl) TB rfl hm hu rfl (by decide) rfl) (md_cons (ps_md rfl (.inl rfl) TB rfl hm hu rfl (by decide) rfl) (md_cons (ps_md rfl (.inl rfl) TB rfl hm hu rfl (by decide) rfl) (md_cons (ps_md rfl (.inl rfl) TB rfl hm hu rfl (by decide) rfl) (md_cons (ps_md rfl (.inl rfl) TB rfl hm hu rfl (by decide) rfl) (md_cons (ps_md rfl (.inl rfl) TB rfl hm hu rfl (by decide) rfl) (md_cons (ps_md rfl (.inl rfl) TB rfl hm hu rfl (by decide) rfl) (md_cons (ps_md rfl (.inl rfl) TB rfl hm hu rfl (by decide) rfl) (md_cons (ps_md rfl (.inl rfl) TB rfl hm hu rfl (by decide) rfl) (md_cons (ps_md rfl (.inl rfl) TB rfl hm hu rfl (by decide) rfl) (md_cons (ps_md rfl (.inl rfl) TB rfl hm hu rfl (by decide) rfl) (md_cons (ps_md rfl (.inl rfl) TB rfl hm hu rfl (by decide) rfl) (md_cons (ps_md rfl (.inl rfl) TB rfl hm hu rfl (by decide) rfl) (md_cons (ps_md rfl (.inl rfl) TB rfl hm hu rfl (by decide) rfl) (md_cons (ps_md rfl (.inl rfl) TB rfl hm hu rfl (by decide) rfl) (md_cons (ps_md rfl (.inl rfl) TB rfl hm hu rfl (by decide) rfl) (md_cons (ps_md rfl (.inl rfl) TB rfl hm hu rfl (by decide) rfl) (md_cons (ps_md rfl (.inl rfl) TB rfl hm hu rfl (by decide) rfl) (md_cons (ps_md rfl (.inl rfl) TB rfl hm hu rfl (by decide) rfl) (md_cons (ps_md rfl (.inl rfl) TB rfl hm hu rfl (by decide) rfl) (md_cons (ps_md rfl (.inl rfl) TB rfl hm hu rfl (by decide) rfl) (md_cons (ps_md rfl (.inl rfl) TB rfl hm hu rfl (by decide) rfl) (md_cons (ps_md rfl (.inl rfl) TB rfl hm hu rfl (by decide) rfl) (md_cons (ps_md rfl (.inl rfl) TB rfl hm hu rfl (by decide) rfl) (md_cons (ps_md rfl (.inl rfl) TB rfl hm hu rfl (by decide) rfl) (md_cons (ps_md rfl (.inl rfl) TB rfl hm hu rfl (by decide) rfl) (md_ret rfl (.inl rfl))))))))))))))))))))))))))))))))))
def xs__law_made : List (Str × LF) := lamsOf "_law_made.<locals>.<lambda>" (defBody (top 73))
theorem W__law_made {c Pt : Addr} {T : List (Addr × Str)} (TB : TabB base mg c Pt) (hm : (Pt, ("_law_made.<locals>.<lambda>" : Str)) ∈ T) (hu : ∀ p ∈ T, p.1 = Pt → p.2 = ("_law_made.<locals>.<lambda>" : Str)) (W1 : Fn P w K mg base 1 "_law_made_first" (spMade T xs__law_made_first)) {f : Addr} {fd : FuncData} (Fd : FunD K "_law_made" "_law_made" (defArgs (top 73)) (defBody (top 73)) (defScope (top 73)) [] [] f fd) (hc : fd.code = .ref c) :
    FnOk P w K mg base L2.CX0 2 f fd [] (spMade T (xs__law_made_first ++ xs__law_made)) :=
  fn_madeC (y := "found") Fd hc (C8.fnScope_by (by decide +kernel)) (by decide +kernel) fun A outer s H E hr => by
    exact md_start1 W1 hr rfl (by exact (by decide : (["found"] : List Str).Nodup)) rfl (.inl rfl) (md_cons (ps_md rfl (.inl rfl) TB rfl hm hu rfl (by decide) rfl) (md_cons (ps_md rfl (.inl rfl) TB rfl hm hu rfl (by decide) rfl) (md_cons (ps_md rfl (.inl rfl) TB rfl hm hu rfl (by decide) rfl) (md_cons (ps_md rfl (.inl rfl) TB rfl hm hu rfl (by decide) rfl) (md_cons (ps_md rfl (.inl rfl) TB rfl hm hu rfl (by decide) rfl) (md_cons (ps_md rfl (.inl rfl) TB rfl hm hu rfl (by decide) rfl) (md_cons (ps_md rfl (.inl rfl) TB rfl hm hu rfl (by decide) rfl) (md_cons (ps_md rfl (.inl rfl) TB rfl hm hu rfl (by decide) rfl) (md_cons (ps_md rfl (.inl rfl) TB rfl hm hu rfl (by decide) rfl) (md_cons (ps_md rfl (.inl rfl) TB rfl hm hu rfl (by decide) rfl) (md_cons (ps_md rfl (.inl rfl) TB rfl hm hu rfl (by decide) rfl) (md_cons (ps_md rfl (.inl rfl) TB rfl hm hu rfl (by decide) rfl) (md_cons (ps_md rfl (.inl rfl) TB rfl hm hu rfl (by decide) rfl) (md_cons (ps_md rfl (.inl rfl) TB rfl hm hu rfl (by decide) rfl) (md_cons (ps_md rfl (.inl rfl) TB rfl hm hu rfl (by decide) rfl) (md_cons (ps_md rfl (.inl rfl) TB rfl hm hu rfl (by decide) rfl) (md_cons (ps_md rfl (.inl rfl) TB rfl hm hu rfl (by decide) rfl) (md_cons (ps_md rfl (.inl rfl) TB rfl hm hu rfl (by decide) rfl) (md_cons (ps_md rfl (.inl rfl) TB rfl hm hu rfl (by decide) rfl) (md_cons (ps_md rfl (.inl rfl) TB rfl hm hu rfl (by decide) rfl) (md_cons (ps_md rfl (.inl rfl) TB rfl hm hu rfl (by decide) rfl) (md_cons (ps_md rfl (.inl rfl) TB rfl hm hu rfl (by decide) rfl) (md_cons (ps_md rfl (.inl rfl) TB rfl hm hu rfl (by decide) rfl) (md_cons (ps_md rfl (.inl rfl) TB rfl hm hu rfl (by decide) rfl) (md_cons (ps_md rfl (.inl rfl) TB rfl hm hu rfl (by decide) rfl) (md_cons (ps_md rfl (.inl rfl) TB rfl hm hu rfl (by decide) rfl) (md_cons (ps_md rfl (.inl rfl) TB rfl hm hu rfl (by decide) rfl) (md_cons (ps_md rfl (.inl rfl) TB rfl hm hu rfl (by decide) rfl) (md_cons (ps_md rfl (.inl rfl) TB rfl hm hu rfl (by decide) rfl) (md_cons (ps_md rfl (.inl rfl) TB rfl hm hu rfl (by decide) rfl) (md_cons (ps_md rfl (.inl rfl) TB rfl hm hu rfl (by decide) rfl) (md_cons (ps_md rfl (.inl rfl) TB rfl hm hu rfl (by decide) rfl) (md_ret rfl (.inl rfl))))))))))))))))))))))))))))))))))
/-! the lambdas of the two defs -/
def lamN (L : LF) : Str := match L.body with
  | .Call (.Name n _) _ _ _ => n
  | _ => ""
def lamG (L : LF) : Bool := match L.params, L.body with
  | ⟨[], [⟨v, none, _⟩], none, [], [], none, []⟩, .Call (.Name n _) [.Name v2 _] [] _ => decide (v = ("value" : Str)) && (decide (v2 = ("value" : Str)) && (decide (n ∈ nX) && decide (L.scope = ⟨.function, [(("value" : Str), .local), (n, .globalImplicit)], false, false, []⟩)))
  | _, _ => false
theorem lamG_of {L : LF} (h : lamG L = true) : ∃ q n p0 p1 p2 p3, n ∈ nX ∧ L = ⟨q, ⟨[], [⟨"value", none, p0⟩], none, [], [], none, []⟩, .Call (.Name n p1) [.Name "value" p2] [] p3, ⟨.function, [(("value" : Str), .local), (n, .globalImplicit)], false, false, []⟩⟩ := by
  obtain ⟨q, pr, bd, sc⟩ := L
  unfold lamG at h
  split at h
  · rename_i v p0 n p1 v2 p2 p3 e1 e2
    obtain ⟨h1, h⟩ := He.ba h
    obtain ⟨h2, h⟩ := He.ba h
    obtain ⟨h3, h4⟩ := He.ba h
    have h1 := of_decide_eq_true h1
    have h2 := of_decide_eq_true h2
    have h4 := of_decide_eq_true h4
    subst h1 h2
    exact ⟨q, n, p0, p1, p2, p3, of_decide_eq_true h3, by rw [← h4, ← e1, ← e2]⟩
  · cases h
def FLc (cx : Str → Addr) (L : LF) (ds : List D) : Option D := if lamG L = true then F1 (fMkX (cx (lamN L))) ds else none
theorem okL (cx : Str → Addr) (Xc : ExX K mg base nX "ParkError" cx) (Xi : ExI P w K mg base nX "ParkError" cx) : ∀ L ds d, FLc cx L ds = some d → ∃ ps, LamOk P w K mg base L2.CX0 3 L ps (spQ (FLc cx L)) := by
  intro L ds d h
  have hg : lamG L = true := by
    unfold FLc at h
    split at h
    · assumption
    · cases h
  have e : FLc cx L = F1 (fMkX (cx (lamN L))) := by
    funext ds
    unfold FLc
    rw [if_pos hg]
  rw [e]
  obtain ⟨q, n, p0, p1, p2, p3, hn, rfl⟩ := lamG_of hg
  have nv : (n == ("value" : Str)) = false := by
    have : ∀ m ∈ nX, (m == ("value" : Str)) = false := by decide +kernel
    exact this n hn
  have nd : (n == ("__debug__" : Str)) = false := by
    have : ∀ m ∈ nX, (m == ("__debug__" : Str)) = false := by decide +kernel
    exact this n hn
  have sN : NScope ["value"] ["value"] [] (⟨.function, [(("value" : Str), .local), (n, .globalImplicit)], false, false, []⟩ : Scope) :=
    { kind := rfl, co := rfl, gen := rfl, nd := (by decide), pre := rfl, par := (fun x hx => by rw [List.mem_singleton.mp hx]; rfl)
      nocell := (fun y hy z => by
        rcases List.mem_cons.mp hy with rfl | hy
        · cases z
        · rw [List.mem_singleton.mp hy] at z; cases z)
      free := (fun y hy e => by
        rcases List.mem_cons.mp hy with rfl | hy
        · cases e
        · rw [List.mem_singleton.mp hy] at e; cases e)
      frk := (fun x hx => by cases hx) }
  refine ⟨["value"], lam_q (y := "value") (g := d1 (fMkX (cx n)) (dName 0)) sN (fun _ _ _ us hl => match us, hl with | [_], _ => rfl) (fun d e h => h) fun f c A outer s H E hr => ?_⟩
  refine q_mkE (X := ncx L2.CX0 P w K mg base ["value"] (nfOf _ c) f A outer s H E) Xi Xc hn hr ?_ (qn 0) nd
  show List.lookup n [(("value" : Str), NameKind.local), (n, .globalImplicit)] = some .globalImplicit
  simp [List.lookup, nv]
def spLaw (T : List (Addr × Str)) (R : Addr → Nat → (Bool → Nat → Prop) → Prop) : Sp := fun vs H Q _ => ∃ (a : Addr) (ns : List Int) (c : Nat), vs = [.ref a] ∧ LstS H a (ns.map V.int) ∧ Tabs T H ∧ (∀ p, R p c fun b _ => b = true) ∧
  (∃ ds, F__law_cells [.lst (ns.map D.int), .int 2] = some (.lst ds) ∧ ∀ d ∈ ds, ∃ es, F__law_pot [.lst (ns.map D.int), d] = some es ∧ PotD c es) ∧ ∀ H', Q (.bl true) H'
theorem W_law (M : Mg mg) {T : List (Addr × Str)} {R : Addr → Nat → (Bool → Nat → Prop) → Prop} (W_right : FnG P w K mg base 5 "_law_right" (spR T R)) (W_pot : Fn P w K mg base 1 "_law_pot" (spQF F__law_pot)) (W_cells : Fn P w K mg base 1 "_law_cells" (spQ F__law_cells))
    {f : Addr} {fd : FuncData} (Fd : FunD K "law" "law" (defArgs (top 78)) (defBody (top 78)) (defScope (top 78)) [] [] f fd) : FnOkG P w K mg base L2.CX0 6 f fd ["script"] (spLaw T R) := by
  refine FunD.okG (N := ["script", "place"]) Fd (C8.fnScope_by (by decide +kernel)) (fun vs H Q E ⟨a, ns, c, e, _⟩ => by rw [e]; rfl) fun cdv A outer s H vs Q E hr hgd ⟨a, ns, c, e, hl, tab, hR, ⟨ds, e1, e2⟩, k⟩ => ?_
  subst e
  have nd : (cxOf L2.CX0 P w K mg base ["script", "place"] "law" (defScope (top 78)) f cdv A outer s H E).nox.N.Nodup := (by decide : (["script", "place"] : List Str).Nodup)
  have hbody : PSs (cxOf L2.CX0 P w K mg base ["script", "place"] "law" (defScope (top 78)) f cdv A outer s H E).nox (defBody (top 78)) _ :=
    pss_cons (ps_law0 (T := T) (g := dCons (dName 0) (dCons (dName 1) dNil)) nd (by exact rfl) (.inl (by exact rfl)) (q_call W_cells (hr.mono (by decide)) (by exact rfl) (ql_cons (qn 0) (ql_cons q_int ql_nil))) PassesOwn.never (by exact rfl) W_right W_pot hr (hr.mono (by decide)) hgd (by exact rfl) (by exact rfl) (ql_cons (qn 0) (ql_cons (qn 1) ql_nil))) (pss_one (ps_ret pe_bl))
  refine ⟨_, hbody.nox, ?_⟩
  refine ⟨[], rho0 2 [.lst (ns.map D.int)], c, ds, sim0 ["script", "place"] (MutA.nil H) ⟨.ref a, [], rfl, ⟨a, ns.map V.int, rfl, by simp, hl, ?_⟩, rfl⟩, tab, ?_, ?_, by simp [rho0], hR, fun σ' H' => k H'⟩
  · clear e1 e2 hl
    induction ns with
    | nil => rfl
    | cons n ns ih => exact ⟨_, _, rfl, rfl, ih⟩
  · exact e1
  · intro d hd ρ' hl' h0 h1
    obtain ⟨es, q1, q2⟩ := e2 d hd
    refine ⟨es, ?_, q2⟩
    have : (dCons (dName 0) (dCons (dName 1) dNil)) ρ' = some [.lst (ns.map D.int), d] := by
      simp only [dCons, dNil, dName, h0, h1, rho0]
      rfl
    rw [this]; exact q1
end
end G
set_option Elab.async false
set_option linter.all false
set_option maxRecDepth 100000
set_option maxHeartbeats 2000000
namespace G
open PySem PySem.Spec PyProof.Rows L2 LY PySem.Calls LamX NdefX
theorem fMod_p {i j : Int} (h : 0 < j) : fMod (.int i) (.int j) = some (.int (i % j)) := if_pos h
theorem fDiv_p {i j : Int} (h : 0 < j) (h2 : j < 1073741824) : fDiv (.int i) (.int j) = some (.int (i / j)) := if_pos ⟨h, h2⟩
theorem fMul_p {i j : Int} (h : -(2 ^ 64) < j ∧ j < 2 ^ 64) : fMul (.int i) (.int j) = some (.int (i * j)) := if_pos (.inr h)
theorem fMul_q {i j : Int} (h : -(2 ^ 64) < i ∧ i < 2 ^ 64) : fMul (.int i) (.int j) = some (.int (i * j)) := if_pos (.inl h)
theorem fPow_p {i j : Int} (h : 0 ≤ j ∧ j ≤ 1000 ∧ i.natAbs < 2 ^ 1000) : fPow (.int i) (.int j) = some (.int (i ^ j.toNat)) := if_pos h
/-! ### draws -/
theorem take_ok {n : Int} {c : Nat} {Q : D → Nat → Prop} (h0 : 0 < n) (h1 : n < 1000000) (hc : 1 ≤ c) (h : ∀ i c', 0 ≤ i → i < n → c ≤ c' + 1 → Q (.int i) c') : R__law_take [.int n] c Q := by
  refine ⟨rfl, fun p => ?_⟩
  unfold g__law_take
  refine ⟨rfl, fun v => ⟨_, rfl, _, rfl, _, rfl, ?_⟩⟩
  generalize decide ((0 : Int) < v) = b
  cases b with
  | true =>
    refine iteT ?_
    refine ⟨rfl, fun v2 => ⟨_, rfl, _, rfl, _, fMod_p h0, _, rfl, rfl, rfl, fun v3 => ⟨_, rfl, _, fDiv_p h0 (by omega), _, rfl, _, rfl, _, rfl, ?_⟩⟩⟩
    exact h _ _ (Int.emod_nonneg _ (by omega)) (Int.emod_lt_of_pos _ h0) (by omega)
  | false =>
    refine iteF ?_
    refine ⟨_, rfl, rfl, hc, ?_⟩
    refine ⟨_, rfl, rfl, fun k k0 k1 => ⟨_, rfl, _, rfl, _, fMod_p (by decide), ?_⟩⟩
    obtain ⟨pr, hpr, hpr0, hpr1⟩ : ∃ pr : Int, fIx (.lst [.int 2147483647, .int 2147483629, .int 2147483587, .int 2147483579, .int 2147483563]) (.int (k % 5)) = some (.int pr) ∧ 0 < pr ∧ pr ≤ 2147483647 := by
      have hk0 := Int.emod_nonneg k (show (5 : Int) ≠ 0 by decide)
      have hk1 := Int.emod_lt_of_pos k (show (0 : Int) < 5 by decide)
      generalize k % 5 = r at *
      have : r = 0 ∨ r = 1 ∨ r = 2 ∨ r = 3 ∨ r = 4 := by omega
      rcases this with rfl | rfl | rfl | rfl | rfl
      · exact ⟨2147483647, rfl, by decide, by decide⟩
      · exact ⟨2147483629, rfl, by decide, by decide⟩
      · exact ⟨2147483587, rfl, by decide, by decide⟩
      · exact ⟨2147483579, rfl, by decide, by decide⟩
      · exact ⟨2147483563, rfl, by decide, by decide⟩
    refine ⟨_, hpr, _, rfl, ?_⟩
    refine ⟨rfl, fun j j0 j1 => ⟨_, rfl, rfl, fun k2 k20 k21 => ⟨_, fMul_q (by decide), rfl, fun k3 k30 k31 => ⟨_, fMul_p (by omega), ?_⟩⟩⟩⟩
    have e1 : (k2 * k3).natAbs ≤ 1000000 * 1000000 := by
      rw [Int.natAbs_mul]
      exact Nat.mul_le_mul (by omega) (by omega)
    refine ⟨_, rfl, _, rfl, _, rfl, _, rfl, _, rfl, _, fPow_p ⟨by decide, by decide, ?_⟩, ?_⟩
    · refine Nat.lt_of_le_of_lt (m := 2 ^ 100) ?_ (by decide +kernel)
      rw [Int.mul_assoc]
      generalize k2 * k3 = z at *
      have : (2 : Nat) ^ 100 = 1267650600228229401496703205376 := by decide +kernel
      omega
    refine ⟨_, rfl, _, rfl, _, fMod_p hpr0, _, rfl, ?_⟩
    generalize hb : ((j + 93815 * k2 * k3 + 1956) ^ (3 : Int).toNat) % pr = bl
    have b0 : 0 ≤ bl := hb ▸ Int.emod_nonneg _ (by omega)
    have b1 : bl < pr := hb ▸ Int.emod_lt_of_pos _ hpr0
    refine ⟨_, rfl, _, rfl, _, rfl, rfl, fun k4 k40 k41 => ⟨_, fMul_q (by decide), _, rfl, _, fMul_p ?_, _, rfl, _, rfl, _, fMod_p (by decide), _, rfl, ?_⟩⟩
    · have h2 := Int.emod_nonneg bl (show (15013 : Int) ≠ 0 by decide)
      have h3 := Int.emod_lt_of_pos bl (show (0 : Int) < 15013 by decide)
      generalize bl % 15013 = z at *
      omega
    generalize (bl * (bl % 15013 + 62 * k4)) % 2305843009213693907 = b2
    refine ⟨.ret (.int (b2 / 128 % n)), ?_, _, rfl, h _ _ (Int.emod_nonneg _ (by omega)) (Int.emod_lt_of_pos _ h0) (by omega)⟩
    show (fMod (.int (b2 / 128)) (.int n)).bind (fun d => some (Out.ret d)) = _
    rw [fMod_p h0]; rfl
end G
set_option Elab.async false
set_option linter.all false
set_option maxRecDepth 100000
set_option maxHeartbeats 2000000
namespace G
open PySem PySem.Spec PyProof.Rows L2 LY PySem.Calls LamX NdefX
theorem atI_ok {α : Type} {ds : List α} {i : Int} (h0 : 0 ≤ i) (h1 : i < ds.length) : ∃ d ∈ ds, L2.atI ds i = some d := by
  have hl : i.toNat < ds.length := by omega
  refine ⟨ds[i.toNat], List.getElem_mem hl, ?_⟩
  unfold L2.atI ixN
  rw [if_pos h0, if_pos h1, Option.bind_some, List.getElem?_eq_getElem hl]
theorem of_ok {ds : List D} {c : Nat} {Q : D → Nat → Prop} (h0 : 0 < ds.length) (h1 : ds.length < 1000000) (hc : 1 ≤ c) (h : ∀ d ∈ ds, ∀ c', c ≤ c' + 1 → Q d c') : R__law_of [.lst ds] c Q := by
  refine ⟨rfl, fun p => ?_⟩
  refine ⟨_, rfl, rfl, _, rfl, take_ok (n := (ds.length : Int)) (by omega) (by omega) hc fun i c' i0 i1 hcc => ?_⟩
  obtain ⟨d, hd, e⟩ := atI_ok i0 i1
  exact ⟨d, e, d, rfl, h d hd c' hcc⟩
/-- a value that may be shown; its text and depth are bounded -/
structure Od (n : Nat) (d : D) : Prop where
  s : d.shw = true
  w : d.pyR.showable = true
  l : d.pyR.shown.length ≤ 100 + 20 * n
  dp : d.pyR.depth ≤ 10 + n
  t : PyData.strOk d.pyR.shown = true
theorem strOk_app {a b : Str} : PyData.strOk (a ++ b) = (PyData.strOk a && PyData.strOk b) := by
  unfold PyData.strOk
  rw [Str.cps_append, Array.all_append]
theorem Od.repr {n : Nat} {d : D} (h : Od n d) (hn : n ≤ 40) : fRepr d = some (.str d.pyR.shown) := by
  unfold fRepr
  refine if_pos ?_
  simp only [Bool.and_eq_true, decide_eq_true_eq]
  have := h.l
  have := h.dp
  exact ⟨⟨⟨h.s, h.w⟩, by omega⟩, by omega⟩
theorem Od.tup {n : Nat} {d : D} (h : Od n d) : Od (n + 1) (.tup [d]) := by
  obtain ⟨h1, h2, h3, h4, h5⟩ := h
  refine ⟨by simp [D.shw, D.shws, h1], by simp [D.pyR, D.pyRs, PyData.showable, PyData.showableAll, h2], ?_, by simp [D.pyR, D.pyRs, PyData.depth, PyData.depthAll]; omega, ?_⟩
  all_goals have e : (D.tup [d]).pyR.shown = ("(" : Str) ++ d.pyR.shown ++ ",)" := rfl
  · rw [e, Str.length_append, Str.length_append, show (("(" : Str)).length = 1 from rfl, show ((",)" : Str)).length = 2 from rfl]
    omega
  · rw [e, strOk_app, strOk_app, h5]; decide +kernel
theorem Od.lst {n : Nat} {d : D} (h : Od n d) : Od (n + 1) (.lst [d]) := by
  obtain ⟨h1, h2, h3, h4, h5⟩ := h
  refine ⟨by simp [D.shw, D.shws, h1], by simp [D.pyR, D.pyRs, PyData.showable, PyData.showableAll, h2], ?_, by simp [D.pyR, D.pyRs, PyData.depth, PyData.depthAll]; omega, ?_⟩
  all_goals have e : (D.lst [d]).pyR.shown = ((("[" : Str) ++ "") ++ d.pyR.shown) ++ "]" := rfl
  · rw [e, Str.length_append, Str.length_append, Str.length_append, show (("[" : Str)).length = 1 from rfl, show (("" : Str)).length = 0 from rfl, show (("]" : Str)).length = 1 from rfl]
    omega
  · rw [e, strOk_app, strOk_app, strOk_app, h5]; decide +kernel
theorem Od.dic {n : Nat} {d : D} (h : Od n d) : Od (n + 1) (.dic [(.inr "a", d)]) := by
  obtain ⟨h1, h2, h3, h4, h5⟩ := h
  refine ⟨by simp [D.shw, D.shwk, h1], by simp [D.pyR, D.pyRk, keyPy, PyData.showable, PyData.showableKv, h2], ?_, by simp [D.pyR, D.pyRk, keyPy, PyData.depth, PyData.depthKv]; omega, ?_⟩
  all_goals have e : (D.dic [(.inr "a", d)]).pyR.shown = ("{" : Str) ++ (reprText "a" ++ ": " ++ d.pyR.shown) ++ "}" := rfl
  · rw [e, Str.length_append, Str.length_append, Str.length_append, Str.length_append, show (("{" : Str)).length = 1 from rfl, show (reprText "a").length = 3 by decide +kernel, show ((": " : Str)).length = 2 from rfl, show (("}" : Str)).length = 1 from rfl]
    omega
  · rw [e, strOk_app, strOk_app, strOk_app, strOk_app, h5]; decide +kernel
theorem Od.pair {n : Nat} {d : D} (h : Od n d) : Od (n + 1) (.tup [.str "a", d]) := by
  obtain ⟨h1, h2, h3, h4, h5⟩ := h
  refine ⟨by simp [D.shw, D.shws, h1], by simp [D.pyR, D.pyRs, PyData.showable, PyData.showableAll, h2], ?_, by simp [D.pyR, D.pyRs, PyData.depth, PyData.depthAll]; omega, ?_⟩
  all_goals have e : (D.tup [.str "a", d]).pyR.shown = ("(" : Str) ++ (reprText "a" ++ ", " ++ d.pyR.shown) ++ ")" := rfl
  · rw [e, Str.length_append, Str.length_append, Str.length_append, Str.length_append, show (("(" : Str)).length = 1 from rfl, show (reprText "a").length = 3 by decide +kernel, show ((", " : Str)).length = 2 from rfl, show ((")" : Str)).length = 1 from rfl]
    omega
  · rw [e, strOk_app, strOk_app, strOk_app, strOk_app, h5]; decide +kernel
def odB (d : D) : Bool := d.shw && (d.pyR.showable && (decide (d.pyR.shown.length ≤ 100) && (decide (d.pyR.depth ≤ 10) && PyData.strOk d.pyR.shown)))
theorem odB_ok {d : D} (h : odB d = true) : Od 0 d := by
  obtain ⟨h1, h⟩ := He.ba h
  obtain ⟨h2, h⟩ := He.ba h
  obtain ⟨h3, h⟩ := He.ba h
  obtain ⟨h4, h5⟩ := He.ba h
  exact ⟨h1, h2, of_decide_eq_true h3, of_decide_eq_true h4, h5⟩
def odds : List D := [.non, .bl true, .bl false, .int 0, .int 1, .int (-1), .int 2, .int 9, .int 10, .int (10 ^ 11), .str "", .str "a", .str "p1", .tup [], .lst [], .dic [], .tup [.int 0], .tup [.str "a"], .lst [.str "a"], .tup [.str "a", .str "b"]] ++
  [.tup [.tup []], .tup [.tup [.str "a"]], .tup [.int 1, .tup [], .tup []], .tup [.bl true, .int 1], .tup [.str "flat", .tup []], .tup [.str "five", .tup [.str "a"], .tup []]]
theorem odds_ok : ∀ d ∈ odds, Od 0 d := by
  have h : odds.all odB = true := by decide +kernel
  exact fun d hd => odB_ok (List.all_eq_true.mp h d hd)
theorem odd_loop {p : Addr} {s1 : Option SV} {P : Out → Nat → Prop} {c : Nat} (k : ∀ (v : D) (l : Option SV) (c' : Nat), Od 9 v → c ≤ c' → P (.nx [some (.r (.raw (.ref p))), s1, some (.r v), l]) c') {F : TSt}
    (hF : F = xAsg (bName 2) (xCall p 0 (R__law_of) (xCons (lE (dLst (dDisp (dCons (dTup (dCons (dName 2) (dNil))) (dCons (dLst (dDisp (dCons (dName 2) (dNil)))) (dCons (d1 (fDisp1 "a") (dName 2)) (dCons (dTup (dCons (dK (.str "a")) (dCons (dName 2) (dNil)))) (dNil)))))))) (xNil)))) :
    ∀ (xs : List D) (n : Nat) (v : D) (l : Option SV) (c2 : Nat), Od n v → n + xs.length ≤ 9 → c + xs.length ≤ c2 → loopX (bName 3) F xs [some (.r (.raw (.ref p))), s1, some (.r v), l] c2 P
  | [], n, v, l, c2, ho, hn, hc => by
    have o9 : Od 9 v := ⟨ho.s, ho.w, Nat.le_trans ho.l (by simp at hn; omega), Nat.le_trans ho.dp (by simp at hn; omega), ho.t⟩
    exact k v l c2 o9 (by simpa using hc)
  | x :: xs, n, v, l, c2, ho, hn, hc => by
    refine ⟨_, rfl, ?_⟩
    rw [hF]
    rw [List.length_cons] at hn hc
    have od := ho.repr (by omega)
    refine ⟨rfl, _, rfl, of_ok (ds := [.tup [v], .lst [v], .dic [(.inr "a", v)], .tup [.str "a", v]]) (by simp) (by simp) (by omega) fun d hd c3 hc3 => ⟨_, rfl, ?_⟩⟩
    rw [← hF]
    refine odd_loop k hF xs (n + 1) d (some (.r x)) c3 ?_ (by omega) (by omega)
    simp only [List.mem_cons, List.not_mem_nil, or_false] at hd
    rcases hd with rfl | rfl | rfl | rfl
    · exact ho.tup
    · exact ho.lst
    · exact ho.dic
    · exact ho.pair
theorem odd_ok {c : Nat} {Q : D → Nat → Prop} (hc : 12 ≤ c) (h : ∀ d c', Od 9 d → c ≤ c' + 12 → Q d c') : R__law_odd [] c Q := by
  refine ⟨rfl, fun p => ?_⟩
  unfold g__law_odd
  refine ⟨_, rfl, rfl, _, rfl, of_ok (ds := odds) (by decide) (by decide) (by omega) fun d hd c1 hc1 => ⟨_, rfl, ?_⟩⟩
  have od := odds_ok d hd
  refine ⟨rfl, _, rfl, of_ok (ds := [.int 0, .int 0, .int 0, .int 1, .int 2, .int 9]) (by decide) (by decide) (by omega) fun d2 hd2 c2 hc2 => ?_⟩
  have : ∃ j : Int, d2 = .int j ∧ 0 ≤ j ∧ j ≤ 9 := by
    simp only [List.mem_cons, List.not_mem_nil, or_false] at hd2
    rcases hd2 with rfl | rfl | rfl | rfl | rfl | rfl
    all_goals exact ⟨_, rfl, by decide, by decide⟩
  obtain ⟨j, rfl, j0, j1⟩ := this
  refine ⟨j, rfl, by omega, by omega, ?_⟩
  show loopX _ _ _ _ _ _
  refine odd_loop (p := p) (c := c2 - (rangeD 0 j).length) (fun v l c' ho hcc => ?_) rfl (rangeD 0 j) 0 d none c2 od ?_ ?_
  · refine ⟨_, rfl, v, rfl, h v c' ho ?_⟩
    have : (rangeD 0 j).length = j.toNat := by simp [rangeD]
    omega
  · have : (rangeD 0 j).length = j.toNat := by simp [rangeD]
    omega
  · have : (rangeD 0 j).length = j.toNat := by simp [rangeD]
    omega
end G
set_option Elab.async false
set_option linter.all false
set_option maxRecDepth 100000
set_option maxHeartbeats 2000000
namespace G
open PySem PySem.Spec PyProof.Rows L2 LY PySem.Calls LamX NdefX
/-! ### marks -/
def names1 : List Str := (nX.drop 1).take 32
def names2 : List Str := (nX.drop 1).drop 32
def chainD (cx : Str → Addr) : List Str → DenD
  | [] => oDic 1
  | n :: r => dSeqD (fDPut 1 (dK (.str n)) (d1 (fIsX (cx "ParkError") (allX nX cx) (cx n)) (dName 0))) (chainD cx r)
theorem marks1_eq (cx : Str → Addr) : g__law_marks_first cx = dSeqD (fPut 1 (fun _ => some (.o (.dic [])))) (chainD cx names1) := rfl
theorem marks2_eq (cx : Str → Addr) : g__law_marks cx = dSeqD (fPut 1 (zDic (dCallD (F__law_marks_first cx) (dCons (dName 0) (dNil))))) (chainD cx names2) := rfl
def mk (cx : Str → Addr) (C : Addr) (n : Str) : Key × D := (.inr n, .bl (decide (cx n = C ∨ cx n = cx "ParkError")))
theorem chain_ok {cx : Str → Addr} {C : Addr} {fs : List (Str × D)} (hC : (allX nX cx).contains C = true) : ∀ (ns : List Str) (kvs : List (Key × D)), ns.Nodup → (∀ n ∈ ns, ∀ kv ∈ kvs, kv.1 ≠ .inr n) → kvs.length + ns.length ≤ 1000 →
    chainD cx ns [some (.r (.exc C fs)), some (.o (.dic kvs))] = some (kvs ++ ns.map (mk cx C))
  | [], kvs, _, _, _ => by rw [List.map_nil, List.append_nil]; rfl
  | n :: r, kvs, hn, hk, hl => by
    rw [List.length_cons] at hl
    have e1 : fIsX (cx "ParkError") (allX nX cx) (cx n) (.exc C fs) = some (.bl (decide (cx n = C ∨ cx n = cx "ParkError"))) := by
      unfold fIsX
      exact if_pos hC
    have e2 : fDPut 1 (dK (.str n)) (d1 (fIsX (cx "ParkError") (allX nX cx) (cx n)) (dName 0)) [some (.r (.exc C fs)), some (.o (.dic kvs))] = some (.nx [some (.r (.exc C fs)), some (.o (.dic (kvs ++ [mk cx C n])))]) := by
      show ((fIsX (cx "ParkError") (allX nX cx) (cx n) (.exc C fs)).bind fun d => if kvs.length ≤ 1000000 then some (Out.nx ([some (.r (.exc C fs)), some (.o (.dic kvs))].set 1 (some (.o (.dic (putD kvs (.inr n) d)))))) else none) = _
      rw [e1, Option.bind_some, if_pos (by omega)]
      have : putD kvs (.inr n) (.bl (decide (cx n = C ∨ cx n = cx "ParkError"))) = kvs ++ [mk cx C n] := by
        unfold putD
        rw [if_neg]
        · rfl
        · intro h
          obtain ⟨kv, h1, h2⟩ := List.any_eq_true.mp h
          exact hk n List.mem_cons_self kv h1 (of_decide_eq_true h2)
      rw [this]
      rfl
    rw [chainD, dSeqD, e2, Option.bind_some]
    obtain ⟨n1, n2⟩ := List.nodup_cons.mp hn
    refine (chain_ok hC r (kvs ++ [mk cx C n]) n2 (fun m hm kv hkv => ?_) (by simp; omega)).trans ?_
    · rcases List.mem_append.mp hkv with h | h
      · exact hk m (List.mem_cons_of_mem _ hm) kv h
      · rw [List.mem_singleton.mp h]
        intro z
        have : n = m := Sum.inr.inj z
        exact n1 (this ▸ hm)
    · rw [List.map_cons, List.append_assoc]; rfl
theorem nd_all : nX.Nodup := by decide +kernel
theorem nd_ns : (names1 ++ names2).Nodup := by decide +kernel
theorem ns_eq : names1 ++ names2 = nX.drop 1 := by decide +kernel
theorem l1 : names1.length = 32 := by decide +kernel
theorem l2 : names2.length = 32 := by decide +kernel
theorem contains_cx {cx : Str → Addr} {n : Str} (h : n ∈ nX) : (allX nX cx).contains (cx n) = true := by
  rw [List.contains_iff_mem]
  exact mem_x cx h
theorem start_gen {cx : Str → Addr} {e : D} (ns : List Str) : dSeqD (fPut 1 (fun _ => some (.o (.dic [])))) (chainD cx ns) [some (.r e), none] = chainD cx ns [some (.r e), some (.o (.dic []))] := rfl
theorem marks_gen {cx : Str → Addr} {e : D} {F1 : List D → Option (List (Key × D))} {k1 : List (Key × D)} (h : F1 [e] = some k1) (ns : List Str) : dSeqD (fPut 1 (zDic (dCallD F1 (dCons (dName 0) (dNil))))) (chainD cx ns) [some (.r e), none] = chainD cx ns [some (.r e), some (.o (.dic k1))] := by
  have f2 : fPut 1 (zDic (dCallD F1 (dCons (dName 0) (dNil)))) [some (.r e), none] = some (.nx [some (.r e), some (.o (.dic k1))]) := by
    show (((F1 [e]).bind fun d => some (SV.o (.dic d))).bind fun x => if 1 < 2 then some (Out.nx ([some (.r e), none].set 1 (some x))) else none) = _
    rw [h]; rfl
  rw [dSeqD, f2, Option.bind_some]
theorem rho1 {e : D} : rho0 2 [e] = [some (.r e), none] := rfl
theorem marks_ok1 {cx : Str → Addr} {n : Str} {fs : List (Str × D)} (hn : n ∈ nX) : F__law_marks_first cx [.exc (cx n) fs] = some (names1.map (mk cx (cx n))) := by
  unfold F__law_marks_first
  rw [if_pos (show [D.exc (cx n) fs].length = 1 from rfl), rho1, marks1_eq, start_gen, chain_ok (contains_cx hn) names1 [] (List.nodup_append.mp nd_ns).1 (fun _ _ _ h => by cases h) (by rw [l1]; decide), List.nil_append]
theorem marks_ok {cx : Str → Addr} {n : Str} {fs : List (Str × D)} (hn : n ∈ nX) : F__law_marks cx [.exc (cx n) fs] = some ((nX.drop 1).map (mk cx (cx n))) := by
  obtain ⟨d1', d2', d3'⟩ := List.nodup_append.mp nd_ns
  unfold F__law_marks
  rw [if_pos (show [D.exc (cx n) fs].length = 1 from rfl), rho1, marks2_eq, marks_gen (marks_ok1 hn)]
  rw [chain_ok (contains_cx hn) names2 _ d2' (fun m hm kv hkv z => ?_) (by rw [List.length_map, l1, l2]; decide), ← List.map_append, ns_eq]
  obtain ⟨x, hx, rfl⟩ := List.mem_map.mp hkv
  have : x = m := Sum.inr.inj z
  exact d3' _ hx _ hm this
theorem comp_filter {b : D → Rho → Option Rho} {t : Rho → Option Bool} {f : Den} {ρ : Rho} {i : Nat} (hi : i < ρ.length) (hb : b = bName i) (T : Str → Bool) (V : Str → D) : ∀ (ns : List Str), (∀ n ∈ ns, t (ρ.set i (some (.r (.str n)))) = some (T n) ∧ f (ρ.set i (some (.r (.str n)))) = some (V n)) → compD b t f ρ (ns.map D.str) = some ((ns.filter T).map V)
  | [], _ => rfl
  | n :: r, h => by
    obtain ⟨h1, h2⟩ := h n List.mem_cons_self
    have ih := comp_filter hi hb T V r fun m hm => h m (List.mem_cons_of_mem _ hm)
    rw [List.map_cons, compD, hb]
    show (t (ρ.set i (some (.r (.str n))))).bind _ = _
    rw [h1, Option.bind_some, List.filter_cons, ← hb, ih]
    cases T n with
    | true => rw [if_pos rfl, if_pos rfl, h2]; rfl
    | false => rw [if_neg (by decide), if_neg (by decide)]
theorem find_mk {cx : Str → Addr} {C : Addr} : ∀ (ns : List Str) (n : Str), n ∈ ns → fIx (.dic (ns.map (mk cx C))) (.str n) = some (mk cx C n).2
  | [], n, h => by cases h
  | m :: r, n, h => by
    show ((((m :: r).map (mk cx C)).find? fun p => decide (p.1 = .inr n)).map (·.2)) = _
    rw [List.map_cons, List.find?_cons]
    by_cases e : m = n
    · subst e
      rw [show decide ((mk cx C m).1 = .inr m) = true from decide_eq_true rfl]
      rfl
    · rw [show decide ((mk cx C m).1 = .inr n) = false from decide_eq_false fun z => e (Sum.inr.inj z)]
      rcases List.mem_cons.mp h with h | h
      · exact absurd h.symm e
      · exact find_mk r n h
theorem filter_one {n : Str} : ∀ (ns : List Str), ns.Nodup → n ∈ ns → ns.filter (fun m => decide (m = n)) = [n]
  | [], _, h => by cases h
  | m :: r, hd, h => by
    obtain ⟨h1, h2⟩ := List.nodup_cons.mp hd
    rw [List.filter_cons]
    by_cases e : m = n
    · subst e
      rw [if_pos (by simp)]
      congr 1
      rw [List.filter_eq_nil_iff]
      intro x hx
      have : x ≠ m := fun z => h1 (z ▸ hx)
      simpa using this
    · rw [if_neg (by simpa using e)]
      rcases List.mem_cons.mp h with h | h
      · exact absurd h.symm e
      · exact filter_one r h2 h
end G
set_option Elab.async false
set_option linter.all false
set_option maxRecDepth 100000
set_option maxHeartbeats 2000000
namespace G
open PySem PySem.Spec PyProof.Rows L2 LY PySem.Calls LamX NdefX
def Inj (cx : Str → Addr) : Prop := ∀ a ∈ nX, ∀ b ∈ nX, cx a = cx b → a = b
theorem pe_in : ("ParkError" : Str) ∈ nX := by decide +kernel
theorem drop_in {n : Str} (h : n ∈ nX.drop 1) : n ∈ nX ∧ n ≠ "ParkError" := by
  have : ∀ m ∈ nX.drop 1, m ∈ nX ∧ m ≠ ("ParkError" : Str) := by decide +kernel
  exact this n h
theorem nX_cons : nX = ("ParkError" : Str) :: nX.drop 1 := by decide +kernel
theorem ne_in {n : Str} (h : n ∈ nX) (h2 : n ≠ "ParkError") : n ∈ nX.drop 1 := by
  rw [nX_cons] at h
  rcases List.mem_cons.mp h with h | h
  · exact absurd h h2
  · exact h
theorem nX_ok : ∀ n ∈ nX, PyData.strOk n = true := by decide +kernel
theorem drop_len : (nX.drop 1).length = 64 := by decide +kernel
theorem keys_mk {cx : Str → Addr} {C : Addr} (ns : List Str) : (ns.map (mk cx C)).map (fun kv => keyD kv.1) = ns.map D.str := by
  rw [List.map_map]; rfl
theorem eqA_self {d : D} (h : d.ok 60 = true) (h2 : D.eqv d d = true) : fEqA d d = some (.bl true) := by
  unfold fEqA fEq
  rw [if_pos (by rw [h]; rfl), h2]
  rfl
theorem d2_eq {F : D → D → Option D} {g h : Den} {ρ : Rho} {x y z : D} (a : g ρ = some x) (b : h ρ = some y) (c : F x y = some z) : d2 F g h ρ = some z := by
  unfold d2
  rw [a, Option.bind_some, b, Option.bind_some, c]
theorem dLst_eq {g : Rho → Option (List D)} {ρ : Rho} {ds : List D} (a : g ρ = some ds) : dLst g ρ = some (.lst ds) := by
  unfold dLst
  rw [a]; rfl
theorem is_right_ok {cx : Str → Addr} (inj : Inj cx) {n : Str} (hn : n ∈ nX) (hp : n ≠ "ParkError") {L : LF} (hg : lamG L = true) (hL : lamN L = n) {k : Nat} {d : D} (od : Od k d) (hk : k ≤ 40) : F__law_is_right (FLc cx) cx [.str n, .clo L, d] = some (.bl true) := by
  have r := od.repr hk
  have ok := od.t
  have hC := contains_cx (cx := cx) hn
  have hm := marks_ok (cx := cx) (fs := [("value", d)]) hn
  have hnd := ne_in hn hp
  generalize hs : d.pyR.shown = s at r ok
  have hFL : FLc cx L [d] = some (.exc (cx n) [("value", d)]) := by
    unfold FLc
    rw [if_pos hg, hL]; rfl
  have e1 : fPut2 4 5 (zR (d1 fRepr (dName 2))) (zR (dCallL 1 (FLc cx) (dCons (dName 2) (dNil)))) (rho0 7 [.str n, .clo L, d]) = some (.nx [some (.r (.str n)), some (.r (.clo L)), some (.r d), none, some (.r (.str s)), some (.r (.exc (cx n) [("value", d)])), none]) := by
    show (((fRepr d).bind fun x => some (SV.r x)).bind fun x => (((FLc cx L [d]).bind fun x => some (SV.r x)).bind fun y => _)) = _
    rw [r, hFL]; rfl
  have e2 : fIf (dOr (dT (d2 (fEq true) (d1 fRepr (d1 (fVal (allX nX cx)) (dName 5))) (dName 4))) (dOr (dNot (dT (d1 (fIsX (cx "ParkError") (allX nX cx) (cx "ParkError")) (dName 5)))) (dNot (dT (d1 (fIsVE (allX nX cx)) (dName 5)))))) (fRet (dK (.bl false))) (fNext) [some (.r (.str n)), some (.r (.clo L)), some (.r d), none, some (.r (.str s)), some (.r (.exc (cx n) [("value", d)])), none] =
      some (.nx [some (.r (.str n)), some (.r (.clo L)), some (.r d), none, some (.r (.str s)), some (.r (.exc (cx n) [("value", d)])), none]) := by
    have q1 : fVal (allX nX cx) (.exc (cx n) [("value", d)]) = some d := if_pos hC
    have q2 : fIsX (cx "ParkError") (allX nX cx) (cx "ParkError") (.exc (cx n) [("value", d)]) = some (.bl true) := by
      refine (if_pos hC).trans ?_
      rw [decide_eq_true (.inr rfl)]
    have q3 : fIsVE (allX nX cx) (.exc (cx n) [("value", d)]) = some (.bl true) := if_pos hC
    have q4 : fEq true (.str s) (.str s) = some (.bl false) := by
      unfold fEq
      rw [if_pos (by simp [D.ok, ok])]
      simp [D.eqv]
    simp only [fIf, dOr, dT, d2, d1, dName, dNot, List.getElem?_cons_zero, List.getElem?_cons_succ, q1, q2, q3, r, q4, Option.bind_some, dBool, Option.map_some, Bool.not_true, if_neg Bool.false_ne_true]
    rfl
  have e3 : fAsg (bName 3) (dDic (dCallD (F__law_marks cx) (dCons (dName 5) (dNil)))) [some (.r (.str n)), some (.r (.clo L)), some (.r d), none, some (.r (.str s)), some (.r (.exc (cx n) [("value", d)])), none] =
      some (.nx [some (.r (.str n)), some (.r (.clo L)), some (.r d), some (.r (.dic ((nX.drop 1).map (mk cx (cx n))))), some (.r (.str s)), some (.r (.exc (cx n) [("value", d)])), none]) := by
    simp only [fAsg, dDic, dCallD, dCons, dNil, dName, List.getElem?_cons_zero, List.getElem?_cons_succ, Option.bind_some, hm, bName]
    rfl
  have hk : keyD (Sum.inr n : Key) = .str n := rfl
  have e4 : dComp [6] (dKeysN 3) (bName 6) (dT (d2 fIx (dName 3) (dName 6))) (dName 6) [some (.r (.str n)), some (.r (.clo L)), some (.r d), some (.r (.dic ((nX.drop 1).map (mk cx (cx n))))), some (.r (.str s)), some (.r (.exc (cx n) [("value", d)])), none] = some [.str n] := by
    have q1 : dKeysN 3 [some (.r (.str n)), some (.r (.clo L)), some (.r d), some (.r (.dic ((nX.drop 1).map (mk cx (cx n))))), some (.r (.str s)), some (.r (.exc (cx n) [("value", d)])), none] = some ((nX.drop 1).map D.str) := by
      unfold dKeysN
      simp only [List.getElem?_cons_zero, List.getElem?_cons_succ]
      rw [keys_mk]
    unfold dComp
    rw [q1, Option.bind_some, if_pos (by rw [List.length_map, drop_len]; decide)]
    have := comp_filter (b := bName 6) (t := dT (d2 fIx (dName 3) (dName 6))) (f := dName 6) (ρ := [some (.r (.str n)), some (.r (.clo L)), some (.r d), some (.r (.dic ((nX.drop 1).map (mk cx (cx n))))), some (.r (.str s)), some (.r (.exc (cx n) [("value", d)])), none]) (i := 6) (by simp) rfl (fun m => decide (m = n)) D.str (nX.drop 1) fun m hm => ?_
    · refine Eq.trans ?_ this |>.trans ?_
      · rfl
      · rw [filter_one _ (by rw [nX_cons] at *; exact (List.nodup_cons.mp nd_all).2) hnd]; rfl
    · refine ⟨?_, rfl⟩
      show (fIx (.dic ((nX.drop 1).map (mk cx (cx n)))) (.str m)).bind dBool = _
      rw [find_mk _ _ hm]
      obtain ⟨h1, h2⟩ := drop_in hm
      show some (decide (cx m = cx n ∨ cx m = cx "ParkError")) = _
      congr 1
      refine decide_eq_decide.mpr ⟨fun z => ?_, fun z => .inl (by rw [z])⟩
      rcases z with z | z
      · exact inj _ h1 _ hn z
      · exact absurd (inj _ h1 _ pe_in z) h2
  have e5 : fRet (dAndV (d2 fEqA (dLst (dComp [6] (dKeysN 3) (bName 6) (dT (d2 fIx (dName 3) (dName 6))) (dName 6))) (dLst (dDisp (dCons (dName 0) (dNil))))) (d2 fEqA (d1 fRepr (dName 2)) (dName 4))) [some (.r (.str n)), some (.r (.clo L)), some (.r d), some (.r (.dic ((nX.drop 1).map (mk cx (cx n))))), some (.r (.str s)), some (.r (.exc (cx n) [("value", d)])), none] = some (.ret (.bl true)) := by
    have q1 : fEqA (.lst [.str n]) (.lst [.str n]) = some (.bl true) := eqA_self (by simp [D.ok, nX_ok n hn]) (by simp [D.eqv, D.eqvs])
    have q2 : fEqA (.str s) (.str s) = some (.bl true) := eqA_self (by simp [D.ok, ok]) (by simp [D.eqv])
    have q3 : dLst (dDisp (dCons (dName 0) (dNil))) [some (.r (.str n)), some (.r (.clo L)), some (.r d), some (.r (.dic ((nX.drop 1).map (mk cx (cx n))))), some (.r (.str s)), some (.r (.exc (cx n) [("value", d)])), none] = some (.lst [.str n]) := rfl
    have q4 : d2 fEqA (d1 fRepr (dName 2)) (dName 4) [some (.r (.str n)), some (.r (.clo L)), some (.r d), some (.r (.dic ((nX.drop 1).map (mk cx (cx n))))), some (.r (.str s)), some (.r (.exc (cx n) [("value", d)])), none] = some (.bl true) := by
      show ((fRepr d).bind fun x => fEqA x (.str s)) = _
      rw [r, Option.bind_some, q2]
    have q0 : d2 fEqA (dLst (dComp [6] (dKeysN 3) (bName 6) (dT (d2 fIx (dName 3) (dName 6))) (dName 6))) (dLst (dDisp (dCons (dName 0) (dNil)))) [some (.r (.str n)), some (.r (.clo L)), some (.r d), some (.r (.dic ((nX.drop 1).map (mk cx (cx n))))), some (.r (.str s)), some (.r (.exc (cx n) [("value", d)])), none] = some (.bl true) := by
      exact d2_eq (dLst_eq e4) q3 q1
    unfold fRet dAndV
    rw [q0, Option.bind_some, show dBool (.bl true) = some true from rfl, Option.bind_some, if_pos rfl, q4]
    rfl
  unfold F__law_is_right
  rw [if_pos (show [D.str n, .clo L, d].length = 3 from rfl)]
  unfold g__law_is_right
  simp only [fSeq, e1, e2, e3, e5, Option.bind_some]
  rfl
end G
set_option Elab.async false
set_option linter.all false
set_option maxRecDepth 100000
set_option maxHeartbeats 2000000
namespace G
open PySem PySem.Spec PyProof.Rows L2 LY PySem.Calls LamX NdefX
abbrev xsAll : List (Str × LF) := xs__law_made_first ++ xs__law_made
theorem xs_ok : ∀ x ∈ xsAll, x.1 ∈ nX ∧ x.1 ≠ "ParkError" ∧ lamG x.2 = true ∧ lamN x.2 = x.1 := by
  have h : xsAll.all (fun x => decide (x.1 ∈ nX) && (decide (x.1 ≠ ("ParkError" : Str)) && (lamG x.2 && decide (lamN x.2 = x.1)))) = true := by decide +kernel
  intro x hx
  obtain ⟨h1, h⟩ := He.ba (List.all_eq_true.mp h x hx)
  obtain ⟨h2, h⟩ := He.ba h
  obtain ⟨h3, h4⟩ := He.ba h
  exact ⟨of_decide_eq_true h1, of_decide_eq_true h2, h3, of_decide_eq_true h4⟩
theorem xs_len : xsAll.length ≤ 1000 := by decide +kernel
/-- the slots stand: five besides the pot -/
structure Sl (p : Addr) (ρ : Rho) : Prop where
  l : ρ.length = 6
  p : ρ[0]? = some (some (.r (.raw (.ref p))))
theorem Sl.set {p : Addr} {ρ : Rho} (h : Sl p ρ) {i : Nat} {x : Option SV} (hi : i ≠ 0) : Sl p (ρ.set i x) := ⟨by rw [List.length_set]; exact h.l, by rw [List.getElem?_set_ne hi]; exact h.p⟩
theorem vals_loop {cx : Str → Addr} (inj : Inj cx) {p : Addr} {n : Str} {L : LF} (hn : n ∈ nX) (hp : n ≠ "ParkError") (hg : lamG L = true) (hL : lamN L = n) {P : Out → Nat → Prop} {c : Nat} (k : ∀ ρ, Sl p ρ → P (.nx ρ) c) {F : TSt}
    (hF : F = lS (fIf (dNot (dT (dCall (F__law_is_right (FLc cx) cx) (dCons (dName 2) (dCons (dName 3) (dCons (dName 4) (dNil))))))) (fRet (dK (.bl false))) (fNext))) :
    ∀ (ds : List D) (ρ : Rho), (∀ d ∈ ds, Od 9 d) → Sl p ρ → ρ[2]? = some (some (.r (.str n))) → ρ[3]? = some (some (.r (.clo L))) → loopX (bName 4) F ds ρ c P
  | [], ρ, _, h, _, _ => k ρ h
  | d :: ds, ρ, ho, h, h2, h3 => by
    refine ⟨_, rfl, ?_⟩
    have r := is_right_ok inj hn hp hg hL (ho d List.mem_cons_self) (by decide)
    have l := h.l
    have e : fIf (dNot (dT (dCall (F__law_is_right (FLc cx) cx) (dCons (dName 2) (dCons (dName 3) (dCons (dName 4) (dNil))))))) (fRet (dK (.bl false))) (fNext) (ρ.set 4 (some (.r d))) = some (.nx (ρ.set 4 (some (.r d)))) := by
      have q2 : dName 2 (ρ.set 4 (some (.r d))) = some (.str n) := by unfold dName; rw [List.getElem?_set_ne (by decide), h2]
      have q3 : dName 3 (ρ.set 4 (some (.r d))) = some (.clo L) := by unfold dName; rw [List.getElem?_set_ne (by decide), h3]
      have q4 : dName 4 (ρ.set 4 (some (.r d))) = some d := by unfold dName; rw [List.getElem?_set_self (by omega)]
      simp only [fIf, dNot, dT, dCall, dCons, dNil, q2, q3, q4, Option.bind_some, r, dBool, Option.map_some, Bool.not_true, if_neg Bool.false_ne_true]
      rfl
    rw [hF]
    refine ⟨_, e, ?_⟩
    rw [← hF]
    exact vals_loop inj hn hp hg hL k hF ds _ (fun d hd => ho d (List.mem_cons_of_mem _ hd)) (h.set (by decide)) (by rw [List.getElem?_set_ne (by decide)]; exact h2) (by rw [List.getElem?_set_ne (by decide)]; exact h3)
def fixed : List D := [.tup [.int 1, .tup [.int 2, .str "a"]], .str "x y"]
theorem fixed_ok : ∀ d ∈ fixed, Od 9 d := by
  have h : fixed.all odB = true := by decide +kernel
  intro d hd
  have o := odB_ok (List.all_eq_true.mp h d hd)
  exact ⟨o.s, o.w, Nat.le_trans o.l (by decide), Nat.le_trans o.dp (by decide), o.t⟩
theorem made_loop {cx : Str → Addr} (inj : Inj cx) {p : Addr} {P : Out → Nat → Prop} {c : Nat} (k : ∀ ρ c', Sl p ρ → c ≤ c' → P (.nx ρ) c') :
    ∀ (xs : List (Str × LF)) (ρ : Rho) (c2 : Nat), (∀ x ∈ xs, x ∈ xsAll) → Sl p ρ → c + 24 * xs.length ≤ c2 → loopX gb__law_right (gF__law_right (FLc cx) cx p) (pairsL xs) ρ c2 P
  | [], ρ, c2, _, h, hc => k ρ c2 h (by simpa using hc)
  | x :: xs, ρ, c2, hx, h, hc => by
    rw [List.length_cons] at hc
    obtain ⟨x1, x2, x3, x4⟩ := xs_ok x (hx x List.mem_cons_self)
    have l := h.l
    refine ⟨(ρ.set 2 (some (.r (.str x.1)))).set 3 (some (.r (.clo x.2))), rfl, ?_⟩
    have h' : Sl p ((ρ.set 2 (some (.r (.str x.1)))).set 3 (some (.r (.clo x.2)))) := (h.set (by decide)).set (by decide)
    have q2 : ((ρ.set 2 (some (.r (.str x.1)))).set 3 (some (.r (.clo x.2))))[2]? = some (some (.r (.str x.1))) := by rw [List.getElem?_set_ne (by decide), List.getElem?_set_self (by omega)]
    have q3 : ((ρ.set 2 (some (.r (.str x.1)))).set 3 (some (.r (.clo x.2))))[3]? = some (some (.r (.clo x.2))) := by rw [List.getElem?_set_self (by rw [List.length_set]; omega)]
    generalize (ρ.set 2 (some (.r (.str x.1)))).set 3 (some (.r (.clo x.2))) = ρ1 at *
    unfold gF__law_right
    refine ⟨h'.p, odd_ok (by omega) fun d1 c3 o1 hc3 => ⟨h'.p, odd_ok (by omega) fun d2 c4 o2 hc4 => ⟨_, rfl, _, rfl, by simp, _, rfl, ?_⟩⟩⟩
    show loopX (bName 4) _ [d1, d2, .tup [.int 1, .tup [.int 2, .str "a"]], .str "x y"] ρ1 c4 _
    refine vals_loop inj x1 x2 x3 x4 (fun ρ2 h2 => ?_) rfl _ ρ1 (fun d hd => ?_) h' q2 q3
    · exact made_loop inj k xs ρ2 c4 (fun y hy => hx y (List.mem_cons_of_mem _ hy)) h2 (by omega)
    · rcases List.mem_cons.mp hd with rfl | hd
      · exact o1
      · rcases List.mem_cons.mp hd with rfl | hd
        · exact o2
        · exact fixed_ok d hd
end G
set_option Elab.async false
set_option linter.all false
set_option maxRecDepth 100000
set_option maxHeartbeats 2000000
namespace G
open PySem PySem.Spec PyProof.Rows L2 LY PySem.Calls LamX NdefX
theorem dSeqL_eq {F : Rho → Option Out} {G : DenL} {ρ ρ1 : Rho} (h : F ρ = some (.nx ρ1)) : dSeqL F G ρ = G ρ1 := by
  unfold dSeqL
  rw [h]; rfl
theorem any_false (ns : List Str) : fAny (.lst (ns.map fun _ => D.bl false)) = some (.bl false) := by
  have h : boolsD (ns.map fun _ => D.bl false) = some (ns.map fun _ => false) := by
    induction ns with
    | nil => rfl
    | cons n r ih => rw [List.map_cons, boolsD, ih]; rfl
  show ((boolsD (ns.map fun _ => D.bl false)).map fun bs => D.bl (bs.any id)) = _
  rw [h, Option.map_some]
  congr 2
  induction ns with
  | nil => rfl
  | cons n r ih => simp at ih ⊢
theorem right_ok {cx : Str → Addr} (inj : Inj cx) (p : Addr) {c : Nat} (hc : 24 * xsAll.length + 12 ≤ c) : R__law_right (FLc cx) cx xsAll p c fun b _ => b = true := by
  unfold R__law_right
  refine made_loop inj (c := c - 24 * xsAll.length) (fun ρ c' h hcc => ?_) xsAll _ c (fun x h => h) ⟨rfl, rfl⟩ (by omega)
  show gG__law_right (FLc cx) cx p ρ c' _
  unfold gG__law_right
  refine ⟨h.p, odd_ok (by omega) fun d c2 od hc2 => ⟨_, rfl, _, rfl, ?_⟩⟩
  have l := h.l
  have hC := contains_cx (cx := cx) pe_in
  have hm := marks_ok (cx := cx) (fs := [("value", d)]) pe_in
  have q1 : dName 1 (ρ.set 1 (some (.r (.exc (cx "ParkError") [("value", d)])))) = some (.exc (cx "ParkError") [("value", d)]) := by
    unfold dName; rw [List.getElem?_set_self (by omega)]
  refine ⟨.ret (.bl true), ?_, true, rfl, rfl⟩
  show fRet _ (ρ.set 1 (some (.r (.exc (cx "ParkError") [("value", d)])))) = _
  have l' : (ρ.set 1 (some (.r (.exc (cx "ParkError") [("value", d)])))).length = 6 := by rw [List.length_set]; exact l
  generalize ρ.set 1 (some (.r (.exc (cx "ParkError") [("value", d)]))) = ρ1 at *
  have w1 : (wipeR ρ1 [5])[1]? = ρ1[1]? := by
    show (ρ1.set 5 none)[1]? = _
    rw [List.getElem?_set_ne (by decide)]
  have q2 : dCallD (F__law_marks cx) (dCons (dName 1) dNil) ρ1 = some ((nX.drop 1).map (mk cx (cx "ParkError"))) := by
    unfold dCallD dCons dNil
    rw [q1, Option.bind_some, Option.bind_some, Option.bind_some, hm]
  have q3 : dComp [5] (dKeys (dCallD (F__law_marks cx) (dCons (dName 1) dNil))) (bName 5) dYes (d2 fIx (dDic (dCallD (F__law_marks cx) (dCons (dName 1) dNil))) (dName 5)) ρ1 = some ((nX.drop 1).map fun _ => .bl false) := by
    unfold dComp dKeys
    rw [q2, Option.bind_some, keys_mk, Option.bind_some, if_pos (by rw [List.length_map, drop_len]; decide)]
    have lw : (wipeR ρ1 [5]).length = 6 := by rw [wipeR_length]; exact l'
    refine (comp_filter (i := 5) (by omega) rfl (fun _ => true) (fun _ => .bl false) (nX.drop 1) fun n hn => ⟨rfl, ?_⟩).trans ?_
    · have a1 : dName 1 ((wipeR ρ1 [5]).set 5 (some (.r (.str n)))) = dName 1 ρ1 := by
        unfold dName; rw [List.getElem?_set_ne (by decide), w1]
      have a2 : dDic (dCallD (F__law_marks cx) (dCons (dName 1) dNil)) ((wipeR ρ1 [5]).set 5 (some (.r (.str n)))) = some (.dic ((nX.drop 1).map (mk cx (cx "ParkError")))) := by
        unfold dDic dCallD dCons dNil
        rw [a1, q1, Option.bind_some, Option.bind_some, Option.bind_some, hm]; rfl
      refine d2_eq a2 (y := .str n) (by unfold dName; rw [List.getElem?_set_self (by omega)]) ?_
      rw [find_mk _ _ hn]
      obtain ⟨h1, h2⟩ := drop_in hn
      show some (D.bl (decide (cx n = cx "ParkError" ∨ cx n = cx "ParkError"))) = _
      rw [decide_eq_false]
      rintro (z | z) <;> exact h2 (inj _ h1 _ pe_in z)
    · rw [List.filter_eq_self.mpr fun _ _ => rfl]
  have q4 : d1 fAny (dLst (dComp [5] (dKeys (dCallD (F__law_marks cx) (dCons (dName 1) dNil))) (bName 5) dYes (d2 fIx (dDic (dCallD (F__law_marks cx) (dCons (dName 1) dNil))) (dName 5)))) ρ1 = some (.bl false) := by
    unfold d1
    rw [dLst_eq q3, Option.bind_some, any_false]
  have q5 : d1 (fIsVE (allX nX cx)) (dName 1) ρ1 = some (.bl true) := by
    unfold d1
    rw [q1, Option.bind_some]
    exact if_pos hC
  unfold fRet dAndV dNotV
  rw [q4, Option.bind_some, show dBool (.bl false) = some false from rfl, Option.bind_some, Option.bind_some, show dBool (.bl (!false)) = some true from rfl, Option.bind_some, if_pos rfl, q5]
  rfl
/-! ### the cells, the pots -/
theorem cells_ok (ns : List Int) : ∃ ds, F__law_cells [.lst (ns.map D.int), .int 2] = some (.lst ds) ∧ ∀ d ∈ ds, d = .int 0 ∨ d = .int 1 := by
  have e1 : fMin2 (.int 2) (.int ((ns.map D.int).length : Int)) = some (.int (if ((ns.map D.int).length : Int) < 2 then ((ns.map D.int).length : Int) else 2)) := rfl
  generalize hm : (if ((ns.map D.int).length : Int) < 2 then ((ns.map D.int).length : Int) else 2) = m at e1
  have e2 : fMax2 (.int 1) (.int m) = some (.int (if m > 1 then m else 1)) := rfl
  generalize hj : (if m > 1 then m else 1) = j at e2
  have j0 : 1 ≤ j ∧ j ≤ 2 := by
    rw [← hj]
    split
    · refine ⟨by omega, ?_⟩
      rw [← hm]
      split <;> omega
    · exact ⟨by omega, by omega⟩
  refine ⟨rangeD 0 j, ?_, fun d hd => ?_⟩
  · unfold F__law_cells
    rw [if_pos (show [D.lst (ns.map D.int), D.int 2].length = 2 from rfl)]
    unfold g__law_cells
    have q : d2 fMax2 (dK (.int 1)) (d2 fMin2 (dName 1) (d1 fLen (dName 0))) (rho0 2 [.lst (ns.map D.int), .int 2]) = some (.int j) := d2_eq rfl (d2_eq rfl rfl e1) e2
    have q2 : dListR (d2 fMax2 (dK (.int 1)) (d2 fMin2 (dName 1) (d1 fLen (dName 0)))) (rho0 2 [.lst (ns.map D.int), .int 2]) = some (rangeD 0 j) := by
      unfold dListR
      rw [q, Option.bind_some]
      exact if_pos ⟨by omega, by omega⟩
    unfold fRet
    rw [dLst_eq q2]; rfl
  · unfold rangeD at hd
    obtain ⟨i, hi, rfl⟩ := List.mem_map.mp hd
    have := List.mem_range.mp hi
    have : i = 0 ∨ i = 1 := by omega
    rcases this with rfl | rfl
    · exact .inl rfl
    · exact .inr rfl
theorem intsD_map (ns : List Int) : intsD (ns.map D.int) = some ns := by
  induction ns with
  | nil => rfl
  | cons n r ih => rw [List.map_cons, intsD, ih]; rfl
theorem pot_ok (ns : List Int) (i : Int) (hi : i = 0 ∨ i = 1) : ∃ es, F__law_pot [.lst (ns.map D.int), .int i] = some es ∧ PotD 900000 es := by
  have hi0 : 0 ≤ i ∧ i < 2 := by omega
  -- the cell
  have ec : ∃ cell : Int, dIf (dT (d2 fLt (dName 1) (d1 fLen (dName 0)))) (d2 fIx (dName 0) (dName 1)) (d2 fAdd (d2 fAdd (d2 fMod (d1 fSum (dSl (dName 0) (dNoPart) (dPart (dK (.int 1))))) (dK (.int 1000003))) (d2 fMul (dK (.int 3804)) (dName 1))) (dK (.int 6012))) (rho0 5 [.lst (ns.map D.int), .int i]) = some (.int cell) := by
    have t : dT (d2 fLt (dName 1) (d1 fLen (dName 0))) (rho0 5 [.lst (ns.map D.int), .int i]) = some (decide (i < ((ns.map D.int).length : Int))) := rfl
    unfold dIf
    rw [t, Option.bind_some]
    by_cases h : i < ((ns.map D.int).length : Int)
    · rw [decide_eq_true h, if_pos rfl]
      obtain ⟨d, hd, e⟩ := atI_ok (ds := ns.map D.int) hi0.1 h
      obtain ⟨z, _, rfl⟩ := List.mem_map.mp hd
      exact ⟨z, d2_eq rfl rfl e⟩
    · rw [decide_eq_false h, if_neg (by decide)]
      have s : ∃ z, d1 fSum (dSl (dName 0) (dNoPart) (dPart (dK (.int 1)))) (rho0 5 [.lst (ns.map D.int), .int i]) = some (.int z) := by
        have e1 : dSl (dName 0) (dNoPart) (dPart (dK (.int 1))) (rho0 5 [.lst (ns.map D.int), .int i]) = some (.lst (LY.cutD (ns.map D.int) none (some 1))) := rfl
        have e2 : LY.cutD (ns.map D.int) none (some 1) = (LY.cutD ns none (some 1)).map D.int := by
          unfold LY.cutD
          rw [List.length_map, ← List.map_drop, ← List.map_take]
        refine ⟨(LY.cutD ns none (some 1)).sum, ?_⟩
        unfold d1
        rw [e1, Option.bind_some, e2]
        show (intsD _).bind _ = _
        rw [intsD_map]; rfl
      obtain ⟨z, s⟩ := s
      exact ⟨_, d2_eq (d2_eq (d2_eq s rfl (fMod_p (by decide))) (d2_eq rfl rfl (fMul_q (by decide))) rfl) rfl rfl⟩
  obtain ⟨cell, ec⟩ := ec
  have e1 : fAsg (bName 2) (dIf (dT (d2 fLt (dName 1) (d1 fLen (dName 0)))) (d2 fIx (dName 0) (dName 1)) (d2 fAdd (d2 fAdd (d2 fMod (d1 fSum (dSl (dName 0) (dNoPart) (dPart (dK (.int 1))))) (dK (.int 1000003))) (d2 fMul (dK (.int 3804)) (dName 1))) (dK (.int 6012)))) (rho0 5 [.lst (ns.map D.int), .int i]) = some (.nx [some (.r (.lst (ns.map D.int))), some (.r (.int i)), some (.r (.int cell)), none, none]) := by
    unfold fAsg
    rw [ec]; rfl
  have p10 : ∀ k : Nat, k ≤ 1000 → fPow (.int 10) (.int (k : Int)) = some (.int (10 ^ k)) := fun k hk => by
    rw [fPow_p ⟨by omega, by omega, by decide +kernel⟩]; rfl
  have ab : fAbs (.int cell) = some (.int (if cell < 0 then -cell else cell)) := rfl
  generalize (if cell < 0 then -cell else cell) = ac at ab
  have e2 : fAsg (bName 3) (d2 fMul (d2 fMod (d1 fInt (d1 fAbs (dName 2))) (d2 fPow (d2 fPow (dK (.int 10)) (dK (.int 60))) (dK (.int 5)))) (d1 fInt (d2 fGe (d1 fAbs (dName 2)) (d2 fPow (dK (.int 10)) (dK (.int 18)))))) [some (.r (.lst (ns.map D.int))), some (.r (.int i)), some (.r (.int cell)), none, none] =
      some (.nx [some (.r (.lst (ns.map D.int))), some (.r (.int i)), some (.r (.int cell)), some (.r (.int (ac % (10 ^ 60) ^ 5 * (if decide ((10 : Int) ^ 18 ≤ ac) = true then 1 else 0)))), none]) := by
    have a1 : d1 fAbs (dName 2) [some (.r (.lst (ns.map D.int))), some (.r (.int i)), some (.r (.int cell)), none, none] = some (.int ac) := ab
    have a2 : d1 fInt (d1 fAbs (dName 2)) [some (.r (.lst (ns.map D.int))), some (.r (.int i)), some (.r (.int cell)), none, none] = some (.int ac) := by
      show Option.bind (d1 fAbs (dName 2) _) fInt = _
      rw [a1]; rfl
    have a3 : d2 fPow (d2 fPow (dK (.int 10)) (dK (.int 60))) (dK (.int 5)) [some (.r (.lst (ns.map D.int))), some (.r (.int i)), some (.r (.int cell)), none, none] = some (.int ((10 ^ 60) ^ 5)) := by
      refine d2_eq (d2_eq rfl rfl (p10 60 (by decide))) rfl ?_
      rw [fPow_p ⟨by decide, by decide, by decide +kernel⟩]; rfl
    have a4 : d2 fGe (d1 fAbs (dName 2)) (d2 fPow (dK (.int 10)) (dK (.int 18))) [some (.r (.lst (ns.map D.int))), some (.r (.int i)), some (.r (.int cell)), none, none] = some (.bl (decide ((10 : Int) ^ 18 ≤ ac))) := d2_eq a1 (d2_eq rfl rfl (p10 18 (by decide))) rfl
    have a5 : d1 fInt (d2 fGe (d1 fAbs (dName 2)) (d2 fPow (dK (.int 10)) (dK (.int 18)))) [some (.r (.lst (ns.map D.int))), some (.r (.int i)), some (.r (.int cell)), none, none] = some (.int (if decide ((10 : Int) ^ 18 ≤ ac) = true then 1 else 0)) := by
      show Option.bind (d2 fGe _ _ _) fInt = _
      rw [a4]; rfl
    have a6 := d2_eq (F := fMul) (d2_eq (F := fMod) a2 a3 (fMod_p (by decide +kernel))) a5 (fMul_p (by split <;> decide))
    unfold fAsg
    rw [a6]; rfl
  generalize ac % (10 ^ 60) ^ 5 * (if decide ((10 : Int) ^ 18 ≤ ac) = true then 1 else 0) = own at e2
  have e3 : fAsg (bName 4) (d2 fMod (d1 fInt (dName 2)) (dK (.int 2305843009213693951))) [some (.r (.lst (ns.map D.int))), some (.r (.int i)), some (.r (.int cell)), some (.r (.int own)), none] =
      some (.nx [some (.r (.lst (ns.map D.int))), some (.r (.int i)), some (.r (.int cell)), some (.r (.int own)), some (.r (.int (cell % 2305843009213693951)))]) := by
    have := d2_eq (F := fMod) (g := d1 fInt (dName 2)) (h := dK (.int 2305843009213693951)) (ρ := [some (.r (.lst (ns.map D.int))), some (.r (.int i)), some (.r (.int cell)), some (.r (.int own)), none]) (x := .int cell) rfl rfl (fMod_p (by decide))
    unfold fAsg
    rw [this]; rfl
  generalize hs : cell % 2305843009213693951 = small at e3
  have hz : ∃ z, d2 fMod (d1 fInt (d2 fAdd (d2 fAdd (d2 fMul (dName 4) (dK (.int 64728))) (d2 fMul (d2 fMul (dK (.int 5386)) (dName 1)) (dName 1))) (dK (.int 1956)))) (dK (.int 2305843009213693921)) [some (.r (.lst (ns.map D.int))), some (.r (.int i)), some (.r (.int cell)), some (.r (.int own)), some (.r (.int small))] = some (.int z) ∧ 0 ≤ z ∧ z < 2 ^ 61 := by
    have b1 := d2_eq (F := fMul) (g := dName 4) (h := dK (.int 64728)) (ρ := [some (.r (.lst (ns.map D.int))), some (.r (.int i)), some (.r (.int cell)), some (.r (.int own)), some (.r (.int small))]) (x := .int small) rfl rfl (fMul_p (by decide))
    have b2 := d2_eq (F := fMul) (g := d2 fMul (dK (.int 5386)) (dName 1)) (h := dName 1) (ρ := [some (.r (.lst (ns.map D.int))), some (.r (.int i)), some (.r (.int cell)), some (.r (.int own)), some (.r (.int small))]) (x := .int (5386 * i)) (y := .int i) (d2_eq rfl rfl (fMul_q (by decide))) rfl (fMul_p (by omega))
    have b3 := d2_eq (F := fAdd) (d2_eq (F := fAdd) b1 b2 rfl) (h := dK (.int 1956)) rfl rfl
    have b4 : d1 fInt (d2 fAdd (d2 fAdd (d2 fMul (dName 4) (dK (.int 64728))) (d2 fMul (d2 fMul (dK (.int 5386)) (dName 1)) (dName 1))) (dK (.int 1956))) [some (.r (.lst (ns.map D.int))), some (.r (.int i)), some (.r (.int cell)), some (.r (.int own)), some (.r (.int small))] = some (.int (small * 64728 + 5386 * i * i + 1956)) := by
      show Option.bind (d2 fAdd _ _ _) fInt = _
      rw [b3]; rfl
    refine ⟨_, d2_eq b4 rfl (fMod_p (by decide)), Int.emod_nonneg _ (by decide), ?_⟩
    have := Int.emod_lt_of_pos (small * 64728 + 5386 * i * i + 1956) (show (0 : Int) < 2305843009213693921 by decide)
    omega
  obtain ⟨z, hz, z0, z1⟩ := hz
  refine ⟨[.int own, .int z, .int 0], ?_, own, z, 0, rfl, z0, z1, by decide, by decide⟩
  unfold F__law_pot
  rw [if_pos (show [D.lst (ns.map D.int), D.int i].length = 2 from rfl)]
  unfold g__law_pot
  rw [dSeqL_eq e1, dSeqL_eq e2, dSeqL_eq e3]
  unfold dDisp dCons
  rw [hz]
  rfl
end G
set_option Elab.async false
set_option linter.all false
set_option maxRecDepth 100000
set_option maxHeartbeats 4000000
namespace H00
open PySem PySem.Spec PyProof.Rows L2 LY PySem.Calls LamX NdefX G
abbrev exA (K : PySem.W.Frag) : Bool := (ex1 K && ex2 K) && ex3 K
abbrev Sy (h : Heap) (K : PySem.W.Frag) : Prop := SaysY fa fn tf exA fi vi h K
theorem nodupB_inj {f : Str → Addr} : ∀ {l : List Str}, nodupB (l.map f) = true → ∀ a ∈ l, ∀ b ∈ l, f a = f b → a = b
  | [], _, a, ha, _, _, _ => by cases ha
  | x :: r, h, a, ha, b, hb, e => by
    rw [List.map_cons, nodupB] at h
    obtain ⟨h1, h2⟩ := He.ba h
    have nx : ∀ y ∈ r, f y ≠ f x := fun y hy z => by
      have : (r.map f).contains (f x) = true := List.contains_iff_mem.mpr (z ▸ List.mem_map_of_mem hy)
      rw [this] at h1; cases h1
    rcases List.mem_cons.mp ha with ea | ha
    · rcases List.mem_cons.mp hb with eb | hb
      · rw [ea, eb]
      · exact absurd (by rw [← ea, e]) (nx b hb)
    · rcases List.mem_cons.mp hb with eb | hb
      · exact absurd (by rw [e, eb]) (nx a ha)
      · exact nodupB_inj h2 a ha b hb e
section
variable {h : Heap} {K : PySem.W.Frag} {mg : Str → Option Value}
theorem gl (KX : K.In h) (G : h.Ns mainGlobals mg) (c : Sy h K) {n : Str} (hn : n ∈ nX) : mg n = some (.ref (cx K n)) :=
  He.glo_ok KX G (c.t.facts (List.mem_append_right _ (List.mem_map_of_mem hn)))
theorem mg_ok (KX : K.In h) (G : h.Ns mainGlobals mg) (c : Sy h K) : Mg mg where
  len := He.free_ok KX G (c.t.fact 12)
  tuple := He.free_ok KX G (c.t.fact 13)
  list := He.free_ok KX G (c.t.fact 14)
  isinstance := He.free_ok KX G (c.t.fact 15)
  str := He.free_ok KX G (c.t.fact 16)
  int := He.free_ok KX G (c.t.fact 17)
  all := He.free_ok KX G (c.t.fact 18)
  any := He.free_ok KX G (c.t.fact 19)
  range := He.free_ok KX G (c.t.fact 20)
  enumerate := He.free_ok KX G (c.t.fact 21)
  max := He.free_ok KX G (c.t.fact 22)
  min := He.free_ok KX G (c.t.fact 23)
  sum := He.free_ok KX G (c.t.fact 24)
  sorted := He.free_ok KX G (c.t.fact 25)
  repr := He.free_ok KX G (c.t.fact 26)
  dict := He.free_ok KX G (c.t.fact 27)
  abs := He.free_ok KX G (c.t.fact 28)
  zip := He.free_ok KX G (c.t.fact 29)
  bool := He.free_ok KX G (c.t.fact 30)
structure Parts (K : PySem.W.Frag) : Prop where
  nl : noLst K = true
  xk : xkB K = true
  nd : nodupB (nX.map (cx K)) = true
  sys : (K.lookup sysModules).isSome = true
  op : PySem.W.nsIn K PySem.cStatics "thirdparty.any" = some none
  init : initB R.prog.main.file K (cx K "ParkError") (aI K) "ParkError.__init__" = true
  ty : PySem.W.typeIn K (.ref (aI K)) = some (.type "function")
  ne : (He.cT K ("_law_made_first", none)).2 ≠ (He.cT K ("_law_made", none)).2
  x : ∀ n ∈ nX, XcR K (cx K "ParkError") (cx K n) ∧ PySem.W.findIn K (.ref (cx K n)) "__init__" = some (some (.ref (aI K)))
theorem parts (c : Sy h K) : Parts K := by
  obtain ⟨h, h10⟩ := He.ba c.more
  obtain ⟨h, h9⟩ := He.ba h
  obtain ⟨h1, h⟩ := He.ba h
  obtain ⟨h2, h⟩ := He.ba h
  obtain ⟨h3, h⟩ := He.ba h
  obtain ⟨h4, h⟩ := He.ba h
  obtain ⟨h4, h5⟩ := He.ba h4
  obtain ⟨h6, h⟩ := He.ba h
  obtain ⟨h7, h⟩ := He.ba h
  obtain ⟨h8, _⟩ := He.ba h
  refine ⟨h1, h2, h3, h4, of_decide_eq_true h5, h6, of_decide_eq_true h7, fun z => ?_, fun n hn => ?_⟩
  · rw [beq_iff_eq.mpr z] at h8; cases h8
  · have : n ∈ nX.take 33 ∨ n ∈ nX.drop 33 := List.mem_append.mp (by rw [List.take_append_drop]; exact hn)
    rcases this with q | q
    · obtain ⟨a, b⟩ := He.ba (List.all_eq_true.mp h9 n q)
      exact ⟨xrB_ok a, of_decide_eq_true b⟩
    · obtain ⟨a, b⟩ := He.ba (List.all_eq_true.mp h10 n q)
      exact ⟨xrB_ok a, of_decide_eq_true b⟩
theorem xx_ok (KX : K.In h) (G : h.Ns mainGlobals mg) (c : Sy h K) {base : Heap} (KB : K.In base) : ExX K mg base nX "ParkError" (cx K) where
  c := fun C hC => by
    obtain ⟨n, hn, rfl⟩ := List.mem_map.mp hC
    exact ((parts c).x n hn).1
  k := xkB_ok (parts c).xk
  g := fun n hn => gl KX G c hn
  ve := He.free_ok KX G (c.t.fact 31)
  sys := by
    obtain ⟨o, e⟩ := Option.isSome_iff_exists.mp (parts c).sys
    exact ⟨o, KB _ _ e⟩
theorem xi_ok (KX : K.In h) (G : h.Ns mainGlobals mg) (c : Sy h K) {w : World} {base : Heap} : ExI R.prog w K mg base nX "ParkError" (cx K) := by
  have P := parts c
  have hfi : fnI K (aI K) = (some ("__init__", "ParkError.__init__", defArgs sInit, .stmts (defBody sInit), defScope sInit, mainGlobals, ["__class__"], .none, builtinsNs) : FnI) := by
    have e : [fnI K (aI K)] = vi := c.fi
    exact (List.cons.inj e).1
  obtain ⟨oc, od, kV, doc, pm, an, cda, ct, cc, osl, lk, hcd, hcode, hcell⟩ := initB_ok P.init hfi
  obtain ⟨hD, hI⟩ := P.x _ pe_in
  have IO : InitOk R.prog K mg (cx K "ParkError") cc cda (defArgs sInit) (defScope sInit) :=
    { kind := rfl, co := rfl, gen := rfl, nocell := (by decide +kernel), free := (fun y hy => by
        have : ∀ z ∈ (defScope sInit).names, z.2 = .free → z.1 = ("__class__" : Str) := by decide +kernel
        exact this _ (PySem.mem_of_lookup hy) rfl), kself := (by decide +kernel), kvalue := (by decide +kernel), ksuper := (by decide +kernel), kcls := (by decide +kernel), par := ⟨_, rfl, rfl⟩, code := hcode, cell := hcell, isD := hD.c.cd
      sup := He.free_ok KX G (c.t.fact 32), op := P.op, top := (by decide +kernel) }
  refine ⟨⟨aI K, _, fun C hC => ?_, P.ty, init_fn (p0 := ⟨5, 8, 5, 13⟩) (p1 := ⟨5, 8, 5, 15⟩) (p2 := ⟨5, 8, 5, 24⟩) (p3 := ⟨5, 25, 5, 30⟩) (p4 := ⟨5, 8, 5, 31⟩) (p5 := ⟨5, 8, 5, 31⟩) (p6 := ⟨6, 8, 6, 12⟩) (p7 := ⟨6, 8, 6, 18⟩) (p8 := ⟨6, 21, 6, 26⟩) (p9 := ⟨6, 8, 6, 26⟩) IO lk hcd rfl (fun L => ⟨_, rfl⟩), ?_⟩⟩
  · obtain ⟨n, hn, rfl⟩ := List.mem_map.mp hC
    exact (P.x n hn).2
  · exact .all fun us hl => by
      match us, hl with
      | [_, _], _ => rfl
end
structure Cc (K : PySem.W.Frag) (p : He.Defn) (fd : FuncData) (c : Addr) : Prop where
  e : fd.code = .ref c
  q : (He.cT K p).1 = c
theorem code_of {x : Str} {st : Stmt} {f : Addr} {fd : FuncData} {K : PySem.W.Frag} (F : FunD K x x (defArgs st) (defBody st) (defScope st) [] [] f fd) (hf : He.fAd K (x, none) = f) : ∃ c, Cc K (x, none) fd c := by
  obtain ⟨oc, od, dV, kV, doc, pm, an, cdv, ct, osl, rfl, lk, hcd, _, _⟩ := F.ex
  obtain ⟨c, hc⟩ := He.codeIn_ref hcd
  subst hc
  exact ⟨c, rfl, He.codeOf_eq (p := (x, none)) (by rw [hf]; exact lk) rfl⟩
section
variable {h : Heap} {K : PySem.W.Frag} {mg : Str → Option Value}
theorem law_at (w : World) (KX : K.In h) (G : h.Ns mainGlobals mg) (c : Sy h K) {fa' : Addr} (hmg : mg "law" = some (.ref fa')) : LawG PySem.Challenge.rw_unbridged_k00_each_error_by_itself w 6 63 "script" mg fa' h := by
  have P := parts c
  have M := mg_ok KX G c
  have Xi : ∀ base : Heap, ExI R.prog w K mg base nX "ParkError" (cx K) := fun base => xi_ok KX G c
  have inj : Inj (cx K) := fun a ha b hb e => nodupB_inj P.nd a ha b hb e
  have D0 : DefF K mg "_law_pot" (top 67) := ⟨let ⟨fd, F⟩ := c.t.def_ 0 (d := d__law_pot) rfl; ⟨_, fd, He.glo_ok KX G (c.t.fact 0), F⟩⟩
  have D1 : DefF K mg "_law_take" (top 68) := ⟨let ⟨fd, F⟩ := c.t.def_ 1 (d := d__law_take) rfl; ⟨_, fd, He.glo_ok KX G (c.t.fact 1), F⟩⟩
  have D2 : DefF K mg "_law_of" (top 69) := ⟨let ⟨fd, F⟩ := c.t.def_ 2 (d := d__law_of) rfl; ⟨_, fd, He.glo_ok KX G (c.t.fact 2), F⟩⟩
  have D3 : DefF K mg "_law_cells" (top 70) := ⟨let ⟨fd, F⟩ := c.t.def_ 3 (d := d__law_cells) rfl; ⟨_, fd, He.glo_ok KX G (c.t.fact 3), F⟩⟩
  have D4 : DefF K mg "_law_odd" (top 71) := ⟨let ⟨fd, F⟩ := c.t.def_ 4 (d := d__law_odd) rfl; ⟨_, fd, He.glo_ok KX G (c.t.fact 4), F⟩⟩
  have D7 : DefF K mg "_law_marks_first" (top 74) := ⟨let ⟨fd, F⟩ := c.t.def_ 7 (d := d__law_marks_first) rfl; ⟨_, fd, He.glo_ok KX G (c.t.fact 7), F⟩⟩
  have D8 : DefF K mg "_law_marks" (top 75) := ⟨let ⟨fd, F⟩ := c.t.def_ 8 (d := d__law_marks) rfl; ⟨_, fd, He.glo_ok KX G (c.t.fact 8), F⟩⟩
  have D9 : DefF K mg "_law_is_right" (top 76) := ⟨let ⟨fd, F⟩ := c.t.def_ 9 (d := d__law_is_right) rfl; ⟨_, fd, He.glo_ok KX G (c.t.fact 9), F⟩⟩
  have D10 : DefF K mg "_law_right" (top 77) := ⟨let ⟨fd, F⟩ := c.t.def_ 10 (d := d__law_right) rfl; ⟨_, fd, He.glo_ok KX G (c.t.fact 10), F⟩⟩
  obtain ⟨fd5, F5⟩ := c.t.def_ 5 (d := d__law_made_first) rfl
  obtain ⟨fd6, F6⟩ := c.t.def_ 6 (d := d__law_made) rfl
  obtain ⟨fdL, FL⟩ := c.t.def_ 11 (d := d_law) rfl
  have g5 : mg "_law_made_first" = some (.ref (He.ga K "_law_made_first")) := He.glo_ok KX G (c.t.fact 5)
  have g6 : mg "_law_made" = some (.ref (He.ga K "_law_made")) := He.glo_ok KX G (c.t.fact 6)
  have gL : mg "law" = some (.ref (He.ga K "law")) := He.glo_ok KX G (c.t.fact 11)
  have e := hmg.symm.trans gL
  cases e
  obtain ⟨c5, C5⟩ := code_of (x := "_law_made_first") (st := top 72) F5 rfl
  obtain ⟨c6, C6⟩ := code_of (x := "_law_made") (st := top 73) F6 rfl
  refine ⟨⟨K, fdL, tf.map (He.cT K), spLaw [((He.cT K ("_law_made_first", none)).2, "_law_made_first.<locals>.<lambda>"), ((He.cT K ("_law_made", none)).2, "_law_made.<locals>.<lambda>")] (R__law_right (FLc (cx K)) (cx K) xsAll), KX, P.nl, fun t ht => ?_, ?_, fun H a ns hl hbits hT hS => ?_, fun base KB Gb TB => ?_⟩⟩
  · obtain ⟨p, hp, rfl⟩ := List.mem_map.mp ht
    exact ⟨c.empty p hp, c.out p hp, PySem.W.codeHd_of_K KX (c.hd p hp)⟩
  · exact fun s u => FunD.bindsA (ps := ["script"]) FL (fun _ _ _ _ _ _ us hl => match us, hl with | [_], _ => rfl) s [u] rfl
  · refine ⟨a, ns, 900000, rfl, hS, fun q hq => ?_, fun p => right_ok inj p ?_, ?_, fun _ => rfl⟩
    · rcases List.mem_cons.mp hq with rfl | hq
      · exact TabS.nil (hT _ (List.mem_map_of_mem (f := He.cT K) (a := (("_law_made_first", none) : He.Defn)) List.mem_cons_self))
      · rw [List.mem_singleton.mp hq]
        exact TabS.nil (hT _ (List.mem_map_of_mem (f := He.cT K) (a := (("_law_made", none) : He.Defn)) (List.mem_cons_of_mem _ List.mem_cons_self)))
    · have := xs_len
      omega
    · obtain ⟨ds, e1, e2⟩ := cells_ok ns
      refine ⟨ds, e1, fun d hd => ?_⟩
      rcases e2 d hd with rfl | rfl
      · exact pot_ok ns 0 (.inl rfl)
      · exact pot_ok ns 1 (.inr rfl)
  · have Xc := xx_ok KX G c KB
    have T5 := TB _ (List.mem_map_of_mem (f := He.cT K) (a := (("_law_made_first", none) : He.Defn)) List.mem_cons_self)
    have T6 := TB _ (List.mem_map_of_mem (f := He.cT K) (a := (("_law_made", none) : He.Defn)) (List.mem_cons_of_mem _ List.mem_cons_self))
    rw [C5.q] at T5
    rw [C6.q] at T6
    have V0 := W__law_pot (P := R.prog) (w := w) (base := base) M D0
    have V1 := W__law_take (P := R.prog) (w := w) (base := base) M D1
    have V2 := W__law_of (P := R.prog) (w := w) (base := base) M D2 V1
    have V3 := W__law_cells (P := R.prog) (w := w) (base := base) M D3
    have V4 := W__law_odd (P := R.prog) (w := w) (base := base) M D4 V2
    have V7 := W__law_marks_first (P := R.prog) (w := w) (cx K) M D7 Xc
    have V8 := W__law_marks (P := R.prog) (w := w) (cx K) M D8 V7 Xc
    have V9 := W__law_is_right (P := R.prog) (w := w) (FLc (cx K)) (cx K) M D9 V8 Xc (okL (cx K) Xc (Xi base))
    have V5 : Fn R.prog w K mg base 1 "_law_made_first" (spMade [((He.cT K ("_law_made_first", none)).2, "_law_made_first.<locals>.<lambda>"), ((He.cT K ("_law_made", none)).2, "_law_made.<locals>.<lambda>")] xs__law_made_first) :=
      ⟨⟨_, fd5, [], g5, W__law_made_first T5 List.mem_cons_self (fun p hp e => by
        rcases List.mem_cons.mp hp with rfl | hp
        · rfl
        · rw [List.mem_singleton.mp hp] at e
          exact absurd e.symm P.ne) F5 C5.e, F5.kp, binds_of F5 fun _ _ _ _ _ _ us hl => match us, hl with | [], _ => rfl⟩⟩
    have V6 : Fn R.prog w K mg base 2 "_law_made" (spMade [((He.cT K ("_law_made_first", none)).2, "_law_made_first.<locals>.<lambda>"), ((He.cT K ("_law_made", none)).2, "_law_made.<locals>.<lambda>")] xsAll) :=
      ⟨⟨_, fd6, [], g6, W__law_made T6 (List.mem_cons_of_mem _ List.mem_cons_self) (fun p hp e => by
        rcases List.mem_cons.mp hp with rfl | hp
        · exact absurd e P.ne
        · rw [List.mem_singleton.mp hp]) V5 F6 C6.e, F6.kp, binds_of F6 fun _ _ _ _ _ _ us hl => match us, hl with | [], _ => rfl⟩⟩
    have V10 := W__law_right (P := R.prog) (w := w) (FLc (cx K)) (cx K) M D10 V6 V4 V9 V8 Xc (Xi base)
    exact W_law M V10 V0 V3 FL
end
end H00
open PySem PySem.W PySem.Calls PyProof.Rows
set_option maxRecDepth 100000 in
set_option maxHeartbeats 8000000 in
theorem PySem.Challenge.cw_unbridged_k00_each_error_by_itself_holds : PySem.Challenge.rw_unbridged_k00_each_error_by_itself.Holds := by
  w_on; o_law
  refine HandSHeadRun.head_any (r := H00.R) (q := view H00.R.prog [78]) (H := H00.hk) (ob := H00.ob) (M := 18000) (loose := H00.nm) (d := HandSHeadRun.topDef H00.R.prog 78) (kwd := []) H00.ob_eq
    (by kernel_rfl) (fun s => by kernel_rfl) H00.run (by kernel_rfl) (by kernel_rfl) (by kernel_rfl) (by rfl) (by first | assumption | decide +kernel) (by decide +kernel) ⟨rfl, rfl, rfl, rfl, rfl, by decide +kernel⟩ ?hw ?hc
  case hw => w_witness2
  case hc =>
    refine LY.walk_G (l := PySem.Challenge.rw_unbridged_k00_each_error_by_itself) (n := 63) (k := 6) (x := "script") rfl (by decide) (by kernel_rfl) ⟨rfl, by decide, by decide⟩ ?F
    intro w mg fa h Y G hmg0
    obtain ⟨K, KX, c⟩ := Y
    have hmg : mg ("law" : PySem.Str) = some (.ref fa) := by
      have e : (HandSHeadRun.topDef H00.R.prog 78).name = ("law" : PySem.Str) := by kernel_rfl
      rw [← e]
      exact hmg0
    exact H00.law_at w KX G c hmg
