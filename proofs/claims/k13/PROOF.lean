import PyProof.Rows.All
import Wide.All
import OpenK.AllK
import Wide.FinOn
import HandS.ExcField
import HandS.ForMost
import HandS.Walk
import HandS.Wide
import HandS.Lambda
import HandS.Head0
import HandS.Head1
import HandS.Head2
import HandS.HeadHook4
import HandS.TupAny
import HandS.TupMul
import HandS.Style
import HandS.Flow
import HandS.Deep
import HandS.TupLen
import HandS.IsInst
import HandS.More
import KE.GoesEnum
import HandS.Zip
import HandS.Conv
import HandS.SortInts
import HandS.WordsDict
import HandS.Text
import HandS.ExcInit
import HandS.TryMany
import HandS.EndBits
import HandS.Iter
import HandS.Small
import HandS.DictComp
import OpenK.KWalk
import PyProof.StrBlock2
import OpenK.KMeth
import PyProof.InstEq
import KE.SortData
import HandS.SortKw
import KE.DataMinMax
import KE.KDictPairs
import KE.KDictCopyH
import PySem.Challenge.RW_restcounts_k13_whole_parts_of_products
set_option Elab.async false
set_option linter.all false
set_option maxRecDepth 100000
set_option maxHeartbeats 4000000
/-! what the run of the top is looked at by: it stands ahead of all else, since the run wants the memory -/
namespace DL
open PySem PySem.Spec PyProof.Rows L2 LamX
/-- data, without the heap (ktup, klst: a tuple, a list that was written, or is the script) -/
inductive DV where
  | non | bl (b : Bool) | int (i : Int) | str (x : Str) | ref (a : Addr) | ty (n : String)
  | tup (xs : List DV) | ktup (xs : List DV) | lst (xs : List DV) | klst (xs : List DV)
  | dk (kvs : List (Key × DV)) | dt (kvs : List (List Key × DV))
  | ins (C : Addr) (fs : List (Str × DV))
theorem and_t {a b : Bool} (h : (a && b) = true) : a = true ∧ b = true := Bool.and_eq_true_iff.mp h
/-- a class of errors over ValueError, with an __init__ of its own at fI -/
def excB (K : PySem.W.Frag) (C : Addr) : Bool := match K.lookup C with
  | some ⟨.type t, _, .cls cd, sl⟩ => (match cd.mro, sl.toList with
    | .ref D :: bm, [_, _, _, _, some (.builtin n), _] => (decide (t = "type") && (decide (D = C) && decide (n = "ValueError.__new__"))) && (!cd.hasDel && (cd.hasDict && PySem.HandSPX.refsVE bm))
    | _, _ => false)
  | _ => false
def oexB (K : PySem.W.Frag) (C : Addr) : Bool := excB K C && (He.eqO (PySem.W.findIn K (.ref C) "__setattr__") (some (some (.builtin "object.__setattr__"))) && (decide (PySem.W.subIn K (.ref C) (.type "BaseException") = some true) && (decide (PySem.W.typeIn K (.ref C) = some (.type "type")) && PySem.W.keepIn K (.ref C))))
def errB (K : PySem.W.Frag) (C fI : Addr) (ns : List Str) : Bool := oexB K C && (He.eqO (PySem.W.findIn K (.ref C) "__init__") (some (some (.ref fI))) && (decide (PySem.W.typeIn K (.ref fI) = some (.type "function")) && ns.all fun f => He.eqO (PySem.W.findIn K (.ref C) f) (some none)))
def baseB (K : PySem.W.Frag) (D : Addr) : Bool := PySem.W.readsIn K D (.type "type") && (He.eqO (PySem.W.specialIn K (.ref D) "__getattribute__") (some (some (.builtin "type.__getattribute__"))) && (match PySem.W.findCls K (.ref D) (.type "type") "__init__" with
  | some (.val (.builtin x)) => decide (x = "ValueError.__init__")
  | _ => false))
/-- the value u is the data d, in the known part -/
def datB (K : PySem.W.Frag) : Nat → Value → DV → Bool
  | _, .none, .non => true
  | _, .bool b, .bl c => b == c
  | _, .int i _, .int j => decide (i = j)
  | _, .str x _, .str y => decide (x = y)
  | _, .ref a, .ref b => decide (a = b)
  | k + 1, .ref a, .ktup xs => (match K.lookup a with
    | some ⟨.type t, _, .seq its _, _⟩ => decide (t = "tuple") && (decide (its.size ≤ sizeLine) && (decide (its.toList.length = xs.length) && (its.toList.zip xs).all fun q => datB K k q.1 q.2))
    | _ => false)
  | _, _, _ => false
/-- the written dict's entries are these, in order -/
def entB (K : PySem.W.Frag) : List DictEntry → List (Int × DV) → Bool
  | [], [] => true
  | e :: es, q :: qs => (match e.key with
    | .int i _ => decide (i = q.1) && (decide (e.hash = hashInt q.1) && datB K 9 e.val q.2)
    | _ => false) && entB K es qs
  | _, _ => false
def dictAt (K : PySem.W.Frag) (a : Addr) : List DictEntry := match K.lookup a with
  | some ⟨_, _, .dict es _, _⟩ => es.toList
  | _ => []
def wdB (K : PySem.W.Frag) (a : Addr) (qs : List (Int × DV)) : Bool := match K.lookup a with
  | some ⟨.type t, none, .dict es _, sl⟩ => (decide (t = "dict") && (sl.isEmpty && !(a == sysModules))) && entB K es.toList qs
  | _ => false
/-- an empty table's object; a list's -/
abbrev oTab : Obj := PySem.W.tabObj #[]
abbrev GetO := Addr → Option Obj
def partY (n : Nat) (g : GetO) : PySem.W.Frag := He.frT g (He.asD g n ++ [cStatics])
/-- the def's code object and its table stand as they were made -/
def tabY (g : GetO) (K : PySem.W.Frag) (p : He.Defn) : Bool := PySem.W.codeHdIn K (He.cT K p).1 (He.cT K p).2 && ((g (He.cT K p).2).map He.emptyTab == some true)
structure SaysY (fa : List He.Fa) (fn : List He.DefD) (tf : List He.Defn) (ex : PySem.W.Frag → Bool) (h : Heap) (K : PySem.W.Frag) : Prop where
  d : He.SaysD fa fn K
  more : ex K = true
  hd : ∀ p ∈ tf, PySem.W.codeHdIn K (He.cT K p).1 (He.cT K p).2 = true
  out : ∀ p ∈ tf, K.lookup (He.cT K p).2 = none
  empty : ∀ p ∈ tf, h.get? (He.cT K p).2 = some oTab
def obsY (n : Nat) (fa : List He.Fa) (fn : List He.DefD) (tf : List He.Defn) (ex : PySem.W.Frag → Bool) (g : GetO) : He.AlD × Bool :=
  (He.obsD fa fn (partY n g), ex (partY n g) && tf.all (tabY g (partY n g)))
theorem saysY_of {n : Nat} {fa : List He.Fa} {fn : List He.DefD} {tf : List He.Defn} {ex : PySem.W.Frag → Bool} {h : Heap} (e : obsY n fa fn tf ex h.get? = (He.valD fn, true)) : SaysY fa fn tf ex h (partY n h.get?) := by
  obtain ⟨e1, e2⟩ := Prod.mk.inj e
  obtain ⟨x, t⟩ := and_t e2
  have one : ∀ p ∈ tf, PySem.W.codeHdIn (partY n h.get?) (He.cT (partY n h.get?) p).1 (He.cT (partY n h.get?) p).2 = true ∧ ∃ o, h.get? (He.cT (partY n h.get?) p).2 = some o ∧ He.emptyTab o = true := fun p hp => by
    obtain ⟨a, b⟩ := and_t (List.all_eq_true.mp t p hp)
    obtain ⟨o, q, z⟩ := Option.map_eq_some_iff.mp (eq_of_beq b)
    exact ⟨a, o, q, z⟩
  constructor
  · exact e1
  · exact x
  · exact fun p hp => (one p hp).1
  · intro p hp
    obtain ⟨_, o, q, z⟩ := one p hp
    exact He.frT_none q z
  · intro p hp
    obtain ⟨_, o, q, z⟩ := one p hp
    exact q.trans (congrArg some (He.emptyTab_eq z))
def hookY (n : Nat) (fa : List He.Fa) (fn : List He.DefD) (tf : List He.Defn) (ex : PySem.W.Frag → Bool) : PySem.W.Hook where
  α := He.AlD × Bool
  obs := fun s => obsY n fa fn tf ex s.heap.get?
  val := fun _ => (He.valD fn, true)
  says := fun _ h => ∃ K : PySem.W.Frag, K.In h ∧ SaysY fa fn tf ex h K
  of := fun _ _ e => ⟨_, He.frT_in, saysY_of e⟩
  keeps := fun _ _ _ ⟨K, hK, c⟩ k => ⟨K, hK.keeps k, { c with empty := fun p hp => k _ _ (c.empty p hp) }⟩
theorem obsY_eq {n : Nat} {fa : List He.Fa} {fn : List He.DefD} {tf : List He.Defn} {ex : PySem.W.Frag → Bool} (s : PySem.W.SharedT) : obsY n fa fn tf ex (HandSHeadRun.getT s) = (hookY n fa fn tf ex).obs s.abs := by
  rw [show HandSHeadRun.getT s = s.abs.heap.get? from funext (HandSHeadRun.getT_eq s)]
  rfl
def isiB (K : PySem.W.Frag) (C : Addr) : Bool := He.eqO (PySem.W.findIn K (.ref C) "__class__") (some (some (.builtin "object.__class__"))) && (He.eqO (PySem.W.specialIn K (.builtin "object.__class__") "__get__") (some (some (.builtin "getset_descriptor.__get__"))) && (decide (PySem.W.takesIn K (.builtin "object.__class__") = some true) && decide (PySem.W.mroIn K C (.type "object") = some true)))
def nclB (K : PySem.W.Frag) (C : Addr) : Bool := (PySem.W.clsIn K C).isSome && PySem.W.typeIn K (.ref C) == some (.type "type")
/-- the i-th default of a method, looked up -/
def dfA (C m : Str) (i : Nat) (K : PySem.W.Frag) : Addr := match K.lookup (He.ma K (He.ga K C) m) with
  | some ⟨_, _, .func fd, _⟩ => (match fd.defaults with
    | .ref T => (match K.lookup T with
      | some ⟨_, _, .seq its _, _⟩ => (match its[i]? with
        | some (.ref a) => a
        | _ => 0)
      | _ => 0)
    | _ => 0)
  | _ => 0
/-- what own operators want of their class -/
def numB (K : PySem.W.Frag) (C : Addr) : Bool := PySem.W.selfFirst K C && (decide (PySem.W.subIn K (.type "int") (.ref C) = some false) && (decide (PySem.W.subIn K (.ref C) (.type "int") = some false) && (decide (PySem.W.subIn K (.ref C) (.type "object") = some true) && He.eqO (PySem.W.findIn K (.ref C) "__ne__") (some (some (.builtin "object.__ne__"))))))
end DL
set_option maxRecDepth 100000
set_option maxHeartbeats 4000000
namespace K13
open PySem PySem.Spec PyProof.Rows L2 DL LamX
def top (i : Nat) : Stmt := PySem.Challenge.pw_restcounts_k13_whole_parts_of_products.main.body.getD i (.Pass ⟨0, 0, 0, 0⟩)
abbrev s_BadNumber_init : Stmt := inClass (top 3) 0
abbrev s_BadRow_init : Stmt := inClass (top 4) 0
abbrev s_TooLarge_init : Stmt := inClass (top 5) 0
abbrev s_is_number : Stmt := top 9
abbrev s_are_exponents : Stmt := top 10
abbrev s_need_exponents : Stmt := top 11
abbrev s_need_from : Stmt := top 12
abbrev s_terms_of : Stmt := top 13
abbrev s_products : Stmt := top 15
abbrev s_Powers_init : Stmt := inClass (top 16) 0
abbrev s_Powers_mul : Stmt := inClass (top 16) 5
abbrev s_Powers_eq : Stmt := inClass (top 16) 8
abbrev s_Powers_raised : Stmt := inClass (top 16) 9
abbrev s_Powers_part_at : Stmt := inClass (top 16) 10
abbrev s_Powers_constant : Stmt := inClass (top 16) 11
abbrev s_Powers_parts : Stmt := inClass (top 16) 13
abbrev s_Powers_modulo : Stmt := inClass (top 16) 14
abbrev s_law_pen : Stmt := top 18
abbrev s_law_draw : Stmt := top 19
abbrev s_law_pick : Stmt := top 20
abbrev s_law_power : Stmt := top 21
abbrev s_law_poly : Stmt := top 22
abbrev s_law_shuffled : Stmt := top 24
abbrev s_law_made : Stmt := top 23
abbrev s_law_wide : Stmt := top 25
abbrev s_law : Stmt := top 26
def d_ORIGIN : DV := .ktup [.int 0, .int 0, .int 0]
end K13
set_option maxRecDepth 100000
set_option maxHeartbeats 4000000
namespace K13
open PySem PySem.Spec PyProof.Rows L2 DL LamX
/-! ### the head -/
def fn_ : List He.DefD := [⟨("BadNumber", some "__init__"), "__init__", "BadNumber.__init__", defArgs s_BadNumber_init, defBody s_BadNumber_init, defScope s_BadNumber_init, [], []⟩, ⟨("BadRow", some "__init__"), "__init__", "BadRow.__init__", defArgs s_BadRow_init, defBody s_BadRow_init, defScope s_BadRow_init, [], []⟩, ⟨("TooLarge", some "__init__"), "__init__", "TooLarge.__init__", defArgs s_TooLarge_init, defBody s_TooLarge_init, defScope s_TooLarge_init, [], []⟩, ⟨("is_number", none), "is_number", "is_number", defArgs s_is_number, defBody s_is_number, defScope s_is_number, [], []⟩, ⟨("are_exponents", none), "are_exponents", "are_exponents", defArgs s_are_exponents, defBody s_are_exponents, defScope s_are_exponents, [], []⟩, ⟨("need_exponents", none), "need_exponents", "need_exponents", defArgs s_need_exponents, defBody s_need_exponents, defScope s_need_exponents, [], []⟩, ⟨("need_from", none), "need_from", "need_from", defArgs s_need_from, defBody s_need_from, defScope s_need_from, [], []⟩, ⟨("terms_of", none), "terms_of", "terms_of", defArgs s_terms_of, defBody s_terms_of, defScope s_terms_of, [], []⟩, ⟨("products", none), "products", "products", defArgs s_products, defBody s_products, defScope s_products, [], []⟩, ⟨("Powers", some "__init__"), "__init__", "Powers.__init__", defArgs s_Powers_init, defBody s_Powers_init, defScope s_Powers_init, [], []⟩, ⟨("Powers", some "__mul__"), "__mul__", "Powers.__mul__", defArgs s_Powers_mul, defBody s_Powers_mul, defScope s_Powers_mul, [], []⟩, ⟨("Powers", some "__eq__"), "__eq__", "Powers.__eq__", defArgs s_Powers_eq, defBody s_Powers_eq, defScope s_Powers_eq, [], []⟩, ⟨("Powers", some "raised"), "raised", "Powers.raised", defArgs s_Powers_raised, defBody s_Powers_raised, defScope s_Powers_raised, [], []⟩, ⟨("Powers", some "part_at"), "part_at", "Powers.part_at", defArgs s_Powers_part_at, defBody s_Powers_part_at, defScope s_Powers_part_at, [], []⟩, ⟨("Powers", some "constant"), "constant", "Powers.constant", defArgs s_Powers_constant, defBody s_Powers_constant, defScope s_Powers_constant, [], []⟩, ⟨("Powers", some "parts"), "parts", "Powers.parts", defArgs s_Powers_parts, defBody s_Powers_parts, defScope s_Powers_parts, [], []⟩, ⟨("Powers", some "modulo"), "modulo", "Powers.modulo", defArgs s_Powers_modulo, defBody s_Powers_modulo, defScope s_Powers_modulo, [], []⟩, ⟨("_law_pen", none), "_law_pen", "_law_pen", defArgs s_law_pen, defBody s_law_pen, defScope s_law_pen, [], []⟩, ⟨("_law_draw", none), "_law_draw", "_law_draw", defArgs s_law_draw, defBody s_law_draw, defScope s_law_draw, [], []⟩, ⟨("_law_pick", none), "_law_pick", "_law_pick", defArgs s_law_pick, defBody s_law_pick, defScope s_law_pick, [], []⟩, ⟨("_law_power", none), "_law_power", "_law_power", defArgs s_law_power, defBody s_law_power, defScope s_law_power, [], []⟩, ⟨("_law_poly", none), "_law_poly", "_law_poly", defArgs s_law_poly, defBody s_law_poly, defScope s_law_poly, [], []⟩, ⟨("_law_shuffled", none), "_law_shuffled", "_law_shuffled", defArgs s_law_shuffled, defBody s_law_shuffled, defScope s_law_shuffled, [], []⟩, ⟨("_law_made", none), "_law_made", "_law_made", defArgs s_law_made, defBody s_law_made, defScope s_law_made, [], []⟩, ⟨("_law_wide", none), "_law_wide", "_law_wide", defArgs s_law_wide, defBody s_law_wide, defScope s_law_wide, [], []⟩, ⟨("law", none), "law", "law", defArgs s_law, defBody s_law, defScope s_law, [], []⟩]
def fa_ : List He.Fa := [.glo "_wall", .glo "CountError", .glo "BadNumber", .glo "BadRow", .glo "TooLarge", .glo "ORIGIN", .int "MOST" 200, .glo "is_number", .glo "are_exponents", .glo "need_exponents", .glo "need_from", .glo "terms_of", .glo "opposite", .glo "products", .glo "Powers", .glo "_law_pen", .glo "_law_draw", .glo "_law_pick", .glo "_law_power", .glo "_law_poly", .glo "_law_made", .glo "_law_shuffled", .glo "_law_wide", .glo "law", .free "abs", .free "all", .free "bool", .free "dict", .free "int", .free "isinstance", .free "len", .free "list", .free "max", .free "range", .free "sorted", .free "tuple", .cls "Powers", .noat "Powers" "reach", .noat "Powers" "terms", .meth "Powers" "__eq__", .meth "Powers" "__mul__", .meth "Powers" "constant", .meth "Powers" "modulo", .meth "Powers" "part_at", .meth "Powers" "parts", .meth "Powers" "raised", .mkr "Powers"]
def ex_ (K : PySem.W.Frag) : Bool := errB K (He.ga K "BadNumber") (He.ma K (He.ga K "BadNumber") "__init__") ["what", "number"] && (errB K (He.ga K "BadRow") (He.ma K (He.ga K "BadRow") "__init__") ["row"] && (errB K (He.ga K "TooLarge") (He.ma K (He.ga K "TooLarge") "__init__") ["what", "number", "limit"] && (baseB K (He.ga K "CountError") && (isiB K (He.ga K "Powers") && (nclB K (He.ga K "Powers") && (numB K (He.ga K "Powers") && (datB K 9 (.ref (He.ga K "ORIGIN")) d_ORIGIN)))))))
def tf_ : List He.Defn := [("law", none)]
abbrev R_ : PySem.W.OpenRow := PySem.W.OpenLaw.row PySem.Challenge.rw_restcounts_k13_whole_parts_of_products
abbrev hk_ : PySem.W.Hook := hookY 6 fa_ fn_ tf_ ex_
def ob_ (s : PySem.W.SharedT) : He.AlD × Bool := obsY 6 fa_ fn_ tf_ ex_ (HandSHeadRun.getT s)
theorem ob_eq (s : PySem.W.SharedT) : ob_ s = hk_.obs s.abs := obsY_eq s
theorem run_false (w : World) : HandSHeadRun.RunEq R_ (PySem.W.view R_.prog [26]) hk_ ob_ 5000 (("_wall" : PySem.Str) :: ("CountError" : PySem.Str) :: ("BadNumber" : PySem.Str) :: ("BadRow" : PySem.Str) :: ("TooLarge" : PySem.Str) :: ("ORIGIN" : PySem.Str) :: ("MOST" : PySem.Str) :: ("is_number" : PySem.Str) :: ("are_exponents" : PySem.Str) :: ("need_exponents" : PySem.Str) :: ("need_from" : PySem.Str) :: ("terms_of" : PySem.Str) :: ("opposite" : PySem.Str) :: ("products" : PySem.Str) :: ("Powers" : PySem.Str) :: ("_law_pen" : PySem.Str) :: ("_law_draw" : PySem.Str) :: ("_law_pick" : PySem.Str) :: ("_law_power" : PySem.Str) :: ("_law_poly" : PySem.Str) :: ("_law_made" : PySem.Str) :: ("_law_shuffled" : PySem.Str) :: ("_law_wide" : PySem.Str) :: []) (w.withFollow "special-get-raises" false) := by
  intro os
  kernel_rfl
theorem run_true (w : World) : HandSHeadRun.RunEq R_ (PySem.W.view R_.prog [26]) hk_ ob_ 5000 (("_wall" : PySem.Str) :: ("CountError" : PySem.Str) :: ("BadNumber" : PySem.Str) :: ("BadRow" : PySem.Str) :: ("TooLarge" : PySem.Str) :: ("ORIGIN" : PySem.Str) :: ("MOST" : PySem.Str) :: ("is_number" : PySem.Str) :: ("are_exponents" : PySem.Str) :: ("need_exponents" : PySem.Str) :: ("need_from" : PySem.Str) :: ("terms_of" : PySem.Str) :: ("opposite" : PySem.Str) :: ("products" : PySem.Str) :: ("Powers" : PySem.Str) :: ("_law_pen" : PySem.Str) :: ("_law_draw" : PySem.Str) :: ("_law_pick" : PySem.Str) :: ("_law_power" : PySem.Str) :: ("_law_poly" : PySem.Str) :: ("_law_made" : PySem.Str) :: ("_law_shuffled" : PySem.Str) :: ("_law_wide" : PySem.Str) :: []) (w.withFollow "special-get-raises" true) := by
  intro os
  kernel_rfl
theorem run_ (w : World) : HandSHeadRun.RunEq R_ (PySem.W.view R_.prog [26]) hk_ ob_ 5000 (("_wall" : PySem.Str) :: ("CountError" : PySem.Str) :: ("BadNumber" : PySem.Str) :: ("BadRow" : PySem.Str) :: ("TooLarge" : PySem.Str) :: ("ORIGIN" : PySem.Str) :: ("MOST" : PySem.Str) :: ("is_number" : PySem.Str) :: ("are_exponents" : PySem.Str) :: ("need_exponents" : PySem.Str) :: ("need_from" : PySem.Str) :: ("terms_of" : PySem.Str) :: ("opposite" : PySem.Str) :: ("products" : PySem.Str) :: ("Powers" : PySem.Str) :: ("_law_pen" : PySem.Str) :: ("_law_draw" : PySem.Str) :: ("_law_pick" : PySem.Str) :: ("_law_power" : PySem.Str) :: ("_law_poly" : PySem.Str) :: ("_law_made" : PySem.Str) :: ("_law_shuffled" : PySem.Str) :: ("_law_wide" : PySem.Str) :: []) w := PySem.W.byRow2 "special-get-raises" (P := fun w => HandSHeadRun.RunEq R_ (PySem.W.view R_.prog [26]) hk_ ob_ 5000 (("_wall" : PySem.Str) :: ("CountError" : PySem.Str) :: ("BadNumber" : PySem.Str) :: ("BadRow" : PySem.Str) :: ("TooLarge" : PySem.Str) :: ("ORIGIN" : PySem.Str) :: ("MOST" : PySem.Str) :: ("is_number" : PySem.Str) :: ("are_exponents" : PySem.Str) :: ("need_exponents" : PySem.Str) :: ("need_from" : PySem.Str) :: ("terms_of" : PySem.Str) :: ("opposite" : PySem.Str) :: ("products" : PySem.Str) :: ("Powers" : PySem.Str) :: ("_law_pen" : PySem.Str) :: ("_law_draw" : PySem.Str) :: ("_law_pick" : PySem.Str) :: ("_law_power" : PySem.Str) :: ("_law_poly" : PySem.Str) :: ("_law_made" : PySem.Str) :: ("_law_shuffled" : PySem.Str) :: ("_law_wide" : PySem.Str) :: []) w) run_false run_true w
end K13
set_option maxRecDepth 100000
set_option maxHeartbeats 4000000
namespace DL
open PySem PySem.Spec PyProof.Rows L2

mutual
/-- a value that holds data, all of it in the frozen heap F -/
inductive Hold (K : PySem.W.Frag) (F : Hp) : V → DV → Prop
  | non : Hold K F .non .non
  | bl (b : Bool) : Hold K F (.bl b) (.bl b)
  | int (i : Int) : Hold K F (.int i) (.int i)
  | str (x : Str) : Hold K F (.str x) (.str x)
  | ref (a : Addr) : Hold K F (.ref a) (.ref a)
  | ty (n : String) : Hold K F (.ty n) (.ty n)
  | tup {a : Addr} {vs : List V} {xs : List DV} : F a = some (.tup vs) → HoldAll K F vs xs → Hold K F (.ref a) (.tup xs)
  | ktup {a : Addr} {vs : List V} {xs : List DV} {o : Obj} {its : Array Value} {n : Nat} : K.lookup a = some o → o.cls = .type "tuple" → o.data = .seq its n → its.size ≤ sizeLine → Vals vs its.toList → HoldAll K F vs xs → Hold K F (.ref a) (.ktup xs)
  | lst {a : Addr} {vs : List V} {xs : List DV} : F a = some (.lst vs) → HoldAll K F vs xs → Hold K F (.ref a) (.lst xs)
  | klst {a : Addr} {vs : List V} {xs : List DV} : SqL K F a vs → HoldAll K F vs xs → Hold K F (.ref a) (.klst xs)
  | dk {a : Addr} {us : List (Key × V)} {kvs : List (Key × DV)} : Rd F a (.dK us) → us.map (·.1) = kvs.map (·.1) → HoldAll K F (us.map (·.2)) (kvs.map (·.2)) → Hold K F (.ref a) (.dk kvs)
  | dt {a : Addr} {us : List (List Key × V)} {kvs : List (List Key × DV)} : Rd F a (.dT us) → us.map (·.1) = kvs.map (·.1) → HoldAll K F (us.map (·.2)) (kvs.map (·.2)) → Hold K F (.ref a) (.dt kvs)
  | ins {a C dx : Addr} {us : List (Str × V)} {fs : List (Str × DV)} : F a = some (.ins C dx us) → us.map (·.1) = fs.map (·.1) → HoldAll K F (us.map (·.2)) (fs.map (·.2)) → Hold K F (.ref a) (.ins C fs)
inductive HoldAll (K : PySem.W.Frag) (F : Hp) : List V → List DV → Prop
  | nil : HoldAll K F [] []
  | cons {v : V} {vs : List V} {d : DV} {ds : List DV} : Hold K F v d → HoldAll K F vs ds → HoldAll K F (v :: vs) (d :: ds)
end

section
variable {K : PySem.W.Frag} {F F' : Hp}
/-- no table, nothing locked -/
def ntb : HO → Bool
  | .tbl _ => false
  | .frz _ _ => false
  | _ => true
/-- what is frozen is as it was, but for tables; a dict may be locked, or not -/
structure Ext (F F' : Hp) : Prop where
  rd' : ∀ {a : Addr} {u : HO}, ntb u = true → Rd F a u → Rd F' a u
  lst : ∀ {a : Addr} {xs : List V}, F a = some (.lst xs) → F' a = some (.lst xs)
  tup : ∀ {a : Addr} {xs : List V}, F a = some (.tup xs) → F' a = some (.tup xs)
  ins : ∀ {a C dx : Addr} {us : List (Str × V)}, F a = some (.ins C dx us) → F' a = some (.ins C dx us)
theorem Ext.rd (x : Ext F F') {a : Addr} {u : HO} (h : Rd F a u) (n : ntb u = true := by rfl) : Rd F' a u := x.rd' n h
theorem Ext.of (s : Same F F') : Ext F F' := ⟨fun _ h => by
  rcases h with h | ⟨o, h⟩
  · exact .inl (s _ _ h)
  · exact .inr ⟨o, s _ _ h⟩, fun h => s _ _ h, fun h => s _ _ h, fun h => s _ _ h⟩
theorem Ext.refl (F : Hp) : Ext F F := ⟨fun _ => id, id, id, id⟩
theorem Ext.trans {F1 F2 F3 : Hp} (a : Ext F1 F2) (b : Ext F2 F3) : Ext F1 F3 := ⟨fun n h => b.rd' n (a.rd' n h), fun h => b.lst (a.lst h), fun h => b.tup (a.tup h), fun h => b.ins (a.ins h)⟩
theorem sqT_mono (s : Ext F F') {a : Addr} {xs : List V} (h : SqT K F a xs) : SqT K F' a xs := by
  rcases h with h | h
  · exact .inl (s.rd h)
  · exact .inr h
theorem sqL_mono (s : Ext F F') {a : Addr} {xs : List V} (h : SqL K F a xs) : SqL K F' a xs := by
  rcases h with h | h
  · exact .inl (s.rd h)
  · exact .inr h
mutual
theorem Hold.mono (s : Ext F F') : ∀ {v : V} {d : DV}, Hold K F v d → Hold K F' v d
  | _, _, .non => .non
  | _, _, .bl b => .bl b
  | _, _, .int i => .int i
  | _, _, .str x => .str x
  | _, _, .ref a => .ref a
  | _, _, .ty n => .ty n
  | _, _, .tup h r => .tup (s.tup h) (HoldAll.mono s r)
  | _, _, .ktup h1 h2 h3 h4 h5 r => .ktup h1 h2 h3 h4 h5 (HoldAll.mono s r)
  | _, _, .lst h r => .lst (s.lst h) (HoldAll.mono s r)
  | _, _, .klst h r => .klst (sqL_mono s h) (HoldAll.mono s r)
  | _, _, .dk h e r => .dk (s.rd h) e (HoldAll.mono s r)
  | _, _, .dt h e r => .dt (s.rd h) e (HoldAll.mono s r)
  | _, _, .ins h e r => .ins (s.ins h) e (HoldAll.mono s r)
theorem HoldAll.mono (s : Ext F F') : ∀ {vs : List V} {ds : List DV}, HoldAll K F vs ds → HoldAll K F' vs ds
  | _, _, .nil => .nil
  | _, _, .cons h t => .cons (Hold.mono s h) (HoldAll.mono s t)
end
/-- a tuple's items, wherever it stands -/
theorem Hold.sqT {v : V} {xs : List DV} (h : Hold K F v (.tup xs) ∨ Hold K F v (.ktup xs)) : ∃ a vs, v = .ref a ∧ SqT K F a vs ∧ HoldAll K F vs xs := by
  rcases h with h | h
  · cases h with
    | tup h r => exact ⟨_, _, rfl, SqT.of h, r⟩
  · cases h with
    | ktup h1 h2 h3 h4 h5 r => exact ⟨_, _, rfl, .inr ⟨_, _, _, h1, h2, h3, h4, h5⟩, r⟩
theorem HoldAll.length : ∀ {vs : List V} {ds : List DV}, HoldAll K F vs ds → vs.length = ds.length
  | _, _, .nil => rfl
  | _, _, .cons _ t => by rw [List.length_cons, List.length_cons, HoldAll.length t]
theorem HoldAll.get : ∀ {vs : List V} {ds : List DV} {i : Nat} {v : V}, HoldAll K F vs ds → vs[i]? = some v → ∃ d, ds[i]? = some d ∧ Hold K F v d
  | _, _, _, _, .nil, e => by simp at e
  | _, _, 0, v, .cons h t, e => by
    rw [List.getElem?_cons_zero] at e
    cases e
    exact ⟨_, rfl, h⟩
  | _, _, i + 1, v, .cons h t, e => by
    obtain ⟨d, h1, h2⟩ := HoldAll.get (i := i) (v := v) t (by simpa using e)
    exact ⟨d, by simpa using h1, h2⟩
theorem HoldAll.of_get : ∀ {vs : List V} {ds : List DV} {i : Nat} {d : DV}, HoldAll K F vs ds → ds[i]? = some d → ∃ v, vs[i]? = some v ∧ Hold K F v d
  | _, _, _, _, .nil, e => by simp at e
  | _, _, 0, d, .cons h t, e => by
    rw [List.getElem?_cons_zero] at e
    cases e
    exact ⟨_, rfl, h⟩
  | _, _, i + 1, d, .cons h t, e => by
    obtain ⟨v, h1, h2⟩ := HoldAll.of_get (i := i) (d := d) t (by simpa using e)
    exact ⟨v, by simpa using h1, h2⟩
theorem HoldAll.append : ∀ {vs us : List V} {ds es : List DV}, HoldAll K F vs ds → HoldAll K F us es → HoldAll K F (vs ++ us) (ds ++ es)
  | _, _, _, _, .nil, h => h
  | _, _, _, _, .cons h t, g => .cons h (HoldAll.append t g)
theorem HoldAll.one {v : V} {d : DV} (h : Hold K F v d) : HoldAll K F [v] [d] := .cons h .nil
theorem HoldAll.take : ∀ {vs : List V} {ds : List DV} (n : Nat), HoldAll K F vs ds → HoldAll K F (vs.take n) (ds.take n)
  | _, _, 0, _ => .nil
  | _, _, _ + 1, .nil => .nil
  | _, _, n + 1, .cons h t => .cons h (HoldAll.take n t)
theorem HoldAll.drop : ∀ {vs : List V} {ds : List DV} (n : Nat), HoldAll K F vs ds → HoldAll K F (vs.drop n) (ds.drop n)
  | _, _, 0, h => h
  | _, _, _ + 1, .nil => .nil
  | _, _, n + 1, .cons _ t => HoldAll.drop n t
theorem HoldAll.set : ∀ {vs : List V} {ds : List DV} {v : V} {d : DV} (i : Nat), HoldAll K F vs ds → Hold K F v d → HoldAll K F (vs.set i v) (ds.set i d)
  | _, _, _, _, _, .nil, _ => .nil
  | _, _, _, _, 0, .cons _ t, h => .cons h t
  | _, _, _, _, i + 1, .cons g t, h => .cons g (HoldAll.set i t h)
theorem HoldAll.reverse {vs : List V} {ds : List DV} (h : HoldAll K F vs ds) : HoldAll K F vs.reverse ds.reverse := by
  induction vs generalizing ds with
  | nil => cases h; exact .nil
  | cons v vs ih =>
    cases h with
    | cons a t =>
      rw [List.reverse_cons, List.reverse_cons]
      exact (ih t).append (.one a)
theorem HoldAll.dropLast {vs : List V} {ds : List DV} (h : HoldAll K F vs ds) : HoldAll K F vs.dropLast ds.dropLast := by
  rw [List.dropLast_eq_take, List.dropLast_eq_take, h.length]
  exact h.take _
theorem HoldAll.erase : ∀ {vs : List V} {ds : List DV} (i : Nat), HoldAll K F vs ds → HoldAll K F (vs.eraseIdx i) (ds.eraseIdx i)
  | _, _, _, .nil => .nil
  | _, _, 0, .cons _ t => t
  | _, _, i + 1, .cons g t => .cons g (HoldAll.erase i t)
theorem HoldAll.ints : ∀ (ns : List Int), HoldAll K F (ns.map V.int) (ns.map DV.int)
  | [] => .nil
  | n :: r => .cons (.int n) (HoldAll.ints r)
theorem HoldAll.of_ints : ∀ {vs : List V} {ns : List Int}, HoldAll K F vs (ns.map DV.int) → vs = ns.map V.int
  | _, [], h => by cases h; rfl
  | _, n :: r, h => by
    cases h with
    | cons a t =>
      cases a
      rw [HoldAll.of_ints t]
      rfl
theorem HoldAll.of_bls : ∀ {vs : List V} {ns : List Bool}, HoldAll K F vs (ns.map DV.bl) → vs = ns.map V.bl
  | _, [], h => by cases h; rfl
  | _, n :: r, h => by
    cases h with
    | cons a t =>
      cases a
      rw [HoldAll.of_bls t]
      rfl
end

/-- a tree of objects owned alone; its leaves are data -/
inductive OV where
  | d (x : DV) | l (xs : List OV) | k (ks : List Key) (xs : List OV) | t (ks : List (List Key)) (xs : List OV) | ins (C : Addr) (ns : List Str) (xs : List OV)
mutual
def OV.frz : OV → DV
  | .d x => x
  | .l xs => .lst (OV.frzL xs)
  | .k ks xs => .dk (ks.zip (OV.frzL xs))
  | .t ks xs => .dt (ks.zip (OV.frzL xs))
  | .ins C ns xs => .ins C (ns.zip (OV.frzL xs))
def OV.frzL : List OV → List DV
  | [] => []
  | x :: xs => OV.frz x :: OV.frzL xs
end
/-- what a name of the def owns alone (u: a dict of ints, whose keys are tuples of ints, written ones among them) -/
inductive OC where
  | l (xs : List DV) | k (kvs : List (Key × DV)) | t (kvs : List (List Key × DV)) | ins (C : Addr) (fs : List (Str × DV)) | pen | tr (x : OV) | u (kvs : List (DV × Int))
/-- a slot: unknown, data, or an object owned (true: handed in, and handed back) -/
inductive Cell where
  | un | d (x : DV) | o (b : Bool) (c : OC)
def OC.frz : OC → Option DV
  | .l xs => some (.lst xs)
  | .k kvs => some (.dk kvs)
  | .t kvs => some (.dt kvs)
  | .ins C fs => some (.ins C fs)
  | .pen => none
  | .u _ => none
  | .tr x => some x.frz
/-- what may be viewed as it stands -/
def OC.flat : OC → Option DV
  | .l xs => some (.lst xs)
  | .k kvs => some (.dk kvs)
  | .t kvs => some (.dt kvs)
  | .ins C fs => some (.ins C fs)
  | .pen => none
  | .u _ => none
  | .tr _ => none
def Cell.frz : Cell → Option DV
  | .d x => some x
  | .o false c => c.frz
  | _ => none
/-- to be read, not kept -/
def Cell.view : Cell → Option DV
  | .d x => some x
  | .o _ c => c.flat
  | _ => none
def Cell.own : Cell → Bool
  | .o _ _ => true
  | _ => false
def Cell.bor : Cell → Bool
  | .o true _ => true
  | _ => false

/-! ### dicts whose keys are tuples of ints, written ones among them -/
def intsV : List DV → Option (List Int)
  | [] => some []
  | .int i :: r => (intsV r).map (i :: ·)
  | _ :: _ => none
def ikey : DV → Option (List Int)
  | .tup xs => intsV xs
  | .ktup xs => intsV xs
  | _ => none
def uEnt (x : List Int × Addr × Value) : DictEntry := ⟨reduceHash (Builtin.Tuple.tupleHashOf (x.1.map hashInt)), .ref x.2.1, x.2.2⟩
def UDp (a : Addr) (xs : List (List Int × Addr × Value)) (h : Heap) : Prop := xs.length ≤ sizeLine ∧ (a == sysModules) = false ∧ ∃ o es ep, h.get? a = some o ∧ o.ExactDict ∧ o.data = .dict es ep ∧ es.toList = xs.map uEnt ∧ (xs.map (·.1)).Nodup
def UD (a : Addr) (xs : List (List Int × Addr × Value)) : HO := .ext (UDp a xs)
theorem UD_code {a : Addr} {xs : List (List Int × Addr × Value)} {b : Addr} {q : Str} (e : UD a xs = LamX.CodeO b q) : False := by
  have e := HO.ext.inj e
  have hh : ∀ i, (i < b + 1) → (Heap.get? { objs := Array.replicate (b + 1) ({ cls := .none, data := .fields #[.none, .str q 0] } : Obj) } i) = some { cls := .none, data := .fields #[.none, .str q 0] } := fun i hi => by
    unfold Heap.get?
    simp [hi]
  have c : LamX.CodeO b q = .ext (UDp a xs) := by rw [e]; rfl
  have c2 := HO.ext.inj c
  have w : UDp a xs { objs := Array.replicate (b + 1) ({ cls := .none, data := .fields #[.none, .str q 0] } : Obj) } := by
    rw [← c2]
    exact ⟨_, _, 0, hh b (Nat.lt_succ_self b), rfl, rfl⟩
  obtain ⟨_, _, o, es, ep, h1, _, h2, _⟩ := w
  by_cases ha : a < b + 1
  · rw [hh a ha] at h1
    cases h1
    cases h2
  · unfold Heap.get? at h1
    have : (Array.replicate (b + 1) ({ cls := .none, data := .fields #[.none, .str q 0] } : Obj))[a]? = none := Array.getElem?_eq_none (by rw [Array.size_replicate]; exact Nat.le_of_not_lt ha)
    simp only [this] at h1
    cases h1
structure Base where
  H0 : Hp
  F0 : Hp
  bor : List Addr
  loc : List Addr
  lk : List (Addr × Obj × HO)
  bs : List (Nat × Addr)

section
variable (B : Base) (K : PySem.W.Frag) (F H : Hp) (n : Nat)
def PenAt (a : Addr) : Prop := ∃ (lc : Addr) (cs : List Int) (i g k f : Int),
  H a = some (.dK [(.inr "cells", .ref lc), (.inr "at", .int i), (.inr "digits", .int g), (.inr "count", .int k), (.inr "fold", .int f)]) ∧ Hold K F (.ref lc) (.lst (cs.map DV.int)) ∧ 0 ≤ i ∧ 0 ≤ g ∧ 0 ≤ k ∧ k ≤ (n : Int) ∧ 0 ≤ f ∧ f < 2147483587
def adr : V → List Addr
  | .ref a => [a]
  | _ => []
/-- the values within an object -/
def kidsAt : V → List V
  | .ref a => match H a with
    | some (.lst vs) => vs
    | some (.dK us) => us.map (·.2)
    | some (.dT us) => us.map (·.2)
    | some (.ins _ _ us) => us.map (·.2)
    | _ => []
  | _ => []
mutual
/-- the addresses of a tree -/
def fpv : OV → V → List Addr
  | .d _, _ => []
  | .l xs, v => adr v ++ fpl xs (kidsAt H v)
  | .k _ xs, v => adr v ++ fpl xs (kidsAt H v)
  | .t _ xs, v => adr v ++ fpl xs (kidsAt H v)
  | .ins _ _ xs, v => adr v ++ fpl xs (kidsAt H v)
def fpl : List OV → List V → List Addr
  | [], _ => []
  | x :: xs, vs => fpv x (vs.headD .non) ++ fpl xs vs.tail
end
mutual
def OvOk : OV → V → Prop
  | .d x, v => Hold K F v x
  | .l xs, v => ∃ a vs, v = .ref a ∧ H a = some (.lst vs) ∧ OvAll xs vs
  | .k ks xs, v => ∃ a us, v = .ref a ∧ H a = some (.dK us) ∧ us.map (·.1) = ks ∧ OvAll xs (us.map (·.2))
  | .t ks xs, v => ∃ a us, v = .ref a ∧ H a = some (.dT us) ∧ us.map (·.1) = ks ∧ OvAll xs (us.map (·.2))
  | .ins C ns xs, v => ∃ a dx us, v = .ref a ∧ H a = some (.ins C dx us) ∧ us.map (·.1) = ns ∧ OvAll xs (us.map (·.2))
def OvAll : List OV → List V → Prop
  | [], vs => vs = []
  | x :: xs, vs => ∃ v us, vs = v :: us ∧ OvOk x v ∧ OvAll xs us
end
/-- a tree with an object at its root -/
def OV.node : OV → Prop
  | .d _ => False
  | _ => True
def UP (p : DV × Int) (q : List Int × Addr × Value) : Prop := Hold K F (.ref q.2.1) p.1 ∧ ikey p.1 = some q.1 ∧ ∃ t, q.2.2 = .int p.2 t
def OCOk (a : Addr) : OC → Prop
  | .u kvs => ∃ xs, H a = some (UD a xs) ∧ Paired (UP K F) kvs xs
  | .l xs => ∃ vs, H a = some (.lst vs) ∧ HoldAll K F vs xs
  | .k kvs => ∃ us : List (Key × V), H a = some (.dK us) ∧ us.map (·.1) = kvs.map (·.1) ∧ HoldAll K F (us.map (·.2)) (kvs.map (·.2))
  | .t kvs => ∃ us : List (List Key × V), H a = some (.dT us) ∧ us.map (·.1) = kvs.map (·.1) ∧ HoldAll K F (us.map (·.2)) (kvs.map (·.2))
  | .ins C fs => ∃ (dx : Addr) (us : List (Str × V)), H a = some (.ins C dx us) ∧ us.map (·.1) = fs.map (·.1) ∧ HoldAll K F (us.map (·.2)) (fs.map (·.2))
  | .pen => PenAt K F H n a
  | .tr x => x.node ∧ OvOk K F H x (.ref a) ∧ (fpv H x (.ref a)).Nodup
/-- the addresses of an owned object -/
def fp (a : Addr) : OC → List Addr
  | .tr x => fpv H x (.ref a)
  | _ => [a]
def OwnAt (x : Addr) : Prop := x ∈ B.bor ∨ B.H0 x = none ∨ x ∈ B.loc
def OwnAs (b : Bool) (x : Addr) : Prop := (b = true ∧ x ∈ B.bor) ∨ B.H0 x = none ∨ x ∈ B.loc
def CellOk (o : Option V) : Cell → Prop
  | .un => True
  | .d x => ∃ v, o = some v ∧ Hold K F v x
  | .o b c => ∃ a, o = some (.ref a) ∧ (∀ x ∈ fp H a c, F x = none) ∧ OCOk K F H n a c ∧ (b = true → a ∈ B.bor) ∧ (∀ x ∈ fp H a c, OwnAs B b x)
end
/-- frozen as it was; a tuple may be frozen later, a table of code objects taken out -/
def lax : HO → Bool
  | .tup _ => true
  | .tbl _ => true
  | _ => false
def TF (H0 F0 F' : Hp) (a : Addr) : Prop := F' a = F0 a ∨ ∃ o, H0 a = some o ∧ lax o = true
/-- as it was; a table of code objects may grow -/
def Stay (o : HO) (o' : Option HO) : Prop := o' = some o ∨ ∃ ps more : Array Value, o = .tbl ps ∧ o' = some (.tbl (ps ++ more))
theorem Stay.refl (o : HO) : Stay o (some o) := .inl rfl
theorem Stay.eq {o : HO} {o' : Option HO} (h : Stay o o') (n : ∀ ps, o ≠ .tbl ps) : o' = some o := h.elim id fun ⟨ps, _, e, _⟩ => absurd e (n ps)
theorem Stay.trans {o o1 : HO} {o2 : Option HO} (h : Stay o (some o1)) (g : Stay o1 o2) : Stay o o2 := by
  rcases h with h | ⟨ps, more, rfl, h⟩
  · cases h
    exact g
  · cases h
    rcases g with g | ⟨ps2, more2, e, g⟩
    · exact .inr ⟨ps, more, rfl, g⟩
    · cases e
      exact .inr ⟨ps, more ++ more2, rfl, by rw [g, Array.append_assoc]⟩
theorem Stay.keep {o : HO} {o' o'' : Option HO} (h : Stay o o') (k : ∀ o1, o' = some o1 → o'' = some o1) : Stay o o'' := by
  rcases h with h | ⟨ps, more, e, h⟩
  · exact .inl (k _ h)
  · exact .inr ⟨ps, more, e, k _ h⟩
theorem Stay.tup {o : HO} {vs : List V} (h : Stay o (some (.tup vs))) : o = .tup vs := by
  rcases h with h | ⟨ps, more, rfl, h⟩
  · exact (Option.some.inj h).symm
  · cases h
theorem Stay.lax {o o' : HO} (h : Stay o (some o')) (l : lax o' = true) : lax o = true := by
  rcases h with h | ⟨ps, more, rfl, h⟩
  · cases h
    exact l
  · rfl
theorem Stay.isSome {o : HO} {o' : Option HO} (h : Stay o o') : o'.isSome = true := by
  rcases h with h | ⟨_, _, _, h⟩ <;> rw [h] <;> rfl
def LIM : Nat := 2 ^ 4000
/-- what is wanted of errors: by the heap, by data; the tables of code objects; how many draws there may be -/
structure ZX where
  E : XK
  G : Addr → List (Str × DV) → List Cell → Prop
  T : List (Addr × Str)
  M : Nat
  ml : M ≤ LIM
  /-- values that hold data, all the way: what a lambda captured -/
  hv : List (V × DV)
/-- the state: the slots' data; what was there at the entry stands, but for what was handed in to be changed -/
structure Core (B : Base) (K : PySem.W.Frag) (T : List (Addr × Str)) (F H : Hp) (n : Nat) (σ : L2.St) (env : List Cell) : Prop where
  same : Same F H
  len : σ.length = env.length
  at_ : ∀ (i : Nat) (c : Cell), env[i]? = some c → ∃ o, σ[i]? = some o ∧ CellOk B K F H n o c
  sep : ∀ (i j : Nat) (b b' : Bool) (c c' : OC) (a a' x : Addr), env[i]? = some (.o b c) → env[j]? = some (.o b' c') → σ[i]? = some (some (.ref a)) → σ[j]? = some (some (.ref a')) → x ∈ fp H a c → x ∈ fp H a' c' → i = j
  fr : ∀ a o, B.H0 a = some o → a ∉ B.bor → a ∉ B.loc → Stay o (H a)
  ff : ∀ a, (B.H0 a).isSome = true → a ∉ B.bor → a ∉ B.loc → TF B.H0 B.F0 F a
  bd : ∀ a ∈ B.bor, (B.H0 a).isSome = true
  lb : ∀ a ∈ B.loc, a ∉ B.bor
  lk : ∀ p ∈ B.lk, F p.1 = some (.frz p.2.1 p.2.2)
  bs : ∀ p ∈ B.bs, (∃ oc, env[p.1]? = some (.o true oc)) ∧ σ[p.1]? = some (some (.ref p.2))
  dom : ∀ a, (B.H0 a).isSome = true → (H a).isSome = true
  tb : LamX.Tabs T H
/-- an error's dict -/
def ExcAt (K : PySem.W.Frag) (F H : Hp) (d : Addr) (fs : List (Str × DV)) : Prop := ∃ us : List (Str × V), H d = some (.xd us) ∧ us.map (·.1) = fs.map (·.1) ∧ HoldAll K F (us.map (·.2)) (fs.map (·.2))
/-- an error of the callee's or of this def's own is wanted -/
def Lnk (B : Base) (K : PySem.W.Frag) (Z : ZX) (F : Hp) (n : Nat) : Prop := (∀ p ∈ Z.hv, Hold K F p.1 p.2) ∧ ∀ (F' H' : Hp) (n' : Nat) (σ' : L2.St) (e : List Cell) (C d : Addr) (fs : List (Str × DV)),
  Core B K Z.T F' H' n' σ' e → Ext F F' → n ≤ n' → n' ≤ Z.M → ExcAt K F' H' d fs → B.H0 d = none → Z.G C fs e → Z.E (.ref C) (some d) H'
structure SOk (B : Base) (K : PySem.W.Frag) (Z : ZX) (F H : Hp) (n : Nat) (σ : L2.St) (env : List Cell) : Prop extends Core B K Z.T F H n σ env where
  lnk : Lnk B K Z F n
theorem Lnk.mono {B : Base} {K : PySem.W.Frag} {Z : ZX} {F F' : Hp} {n n' : Nat} (l : Lnk B K Z F n) (x : Ext F F') (hn : n ≤ n') : Lnk B K Z F' n' :=
  ⟨fun p hp => (l.1 p hp).mono x, fun F2 H2 n2 σ2 e C d fs c x2 h2 => l.2 F2 H2 n2 σ2 e C d fs c (x.trans x2) (Nat.le_trans hn h2)⟩
/-- the tables stand where all but what is owned stands -/
theorem tabs_keep {T : List (Addr × Str)} {H H' : Hp} (t : LamX.Tabs T H) (e : ∀ b o, H b = some o → ((∃ ps, o = .tbl ps) ∨ ∃ q, o = LamX.CodeO b q) → H' b = some o) : LamX.Tabs T H' := fun p hp => by
  obtain ⟨ps, h1, h2, h3⟩ := t p hp
  refine ⟨ps, e _ _ h1 (.inl ⟨ps, rfl⟩), h2, fun pos cv hc => ?_⟩
  obtain ⟨c, e1, e2⟩ := h3 pos cv hc
  exact ⟨c, e1, e _ _ e2 (.inr ⟨_, rfl⟩)⟩

section
variable {B : Base} {K : PySem.W.Frag} {Z : ZX} {Tz : List (Addr × Str)} {F F' H H' : Hp} {n n' : Nat} {σ : L2.St} {env : List Cell} {a : Addr}
theorem PenAt.mono (s : Ext F F') (e : H' a = H a) (hn : n ≤ n') (h : PenAt K F H n a) : PenAt K F' H' n' a := by
  obtain ⟨lc, cs, i, g, k, f, h1, h2, h3, h4, h5, h6, h7, h8⟩ := h
  exact ⟨lc, cs, i, g, k, f, e.trans h1, h2.mono s, h3, h4, h5, by omega, h7, h8⟩
open Classical in
noncomputable def plain : HO → Bool
  | .ext φ => decide (∃ a xs, φ = UDp a xs)
  | .lst _ => true
  | .dK _ => true
  | .dT _ => true
  | .ins _ _ _ => true
  | _ => false
theorem kids_congr {v : V} (e : ∀ y ∈ adr v, H' y = H y) : kidsAt H' v = kidsAt H v := by
  cases v <;> first | rfl | (unfold kidsAt; dsimp only; rw [e _ (List.mem_singleton.mpr rfl)])
mutual
theorem fpv_congr : ∀ (x : OV) (v : V), (∀ y ∈ fpv H x v, H' y = H y) → fpv H' x v = fpv H x v
  | .d _, v, _ => by rw [fpv, fpv]
  | .l xs, v, e => by
    rw [fpv] at e
    rw [fpv, fpv, kids_congr fun y hy => e y (List.mem_append_left _ hy), fpl_congr xs _ fun y hy => e y (List.mem_append_right _ hy)]
  | .k _ xs, v, e => by
    rw [fpv] at e
    rw [fpv, fpv, kids_congr fun y hy => e y (List.mem_append_left _ hy), fpl_congr xs _ fun y hy => e y (List.mem_append_right _ hy)]
  | .t _ xs, v, e => by
    rw [fpv] at e
    rw [fpv, fpv, kids_congr fun y hy => e y (List.mem_append_left _ hy), fpl_congr xs _ fun y hy => e y (List.mem_append_right _ hy)]
  | .ins _ _ xs, v, e => by
    rw [fpv] at e
    rw [fpv, fpv, kids_congr fun y hy => e y (List.mem_append_left _ hy), fpl_congr xs _ fun y hy => e y (List.mem_append_right _ hy)]
theorem fpl_congr : ∀ (xs : List OV) (vs : List V), (∀ y ∈ fpl H xs vs, H' y = H y) → fpl H' xs vs = fpl H xs vs
  | [], vs, _ => by rw [fpl, fpl]
  | x :: xs, vs, e => by
    rw [fpl] at e
    rw [fpl, fpl, fpv_congr x _ fun y hy => e y (List.mem_append_left _ hy), fpl_congr xs _ fun y hy => e y (List.mem_append_right _ hy)]
end
theorem kids_of {a : Addr} {o : HO} (h : H a = some o) : kidsAt H (.ref a) = match some o with
    | some (.lst vs) => vs
    | some (.dK us) => us.map (·.2)
    | some (.dT us) => us.map (·.2)
    | some (.ins _ _ us) => us.map (·.2)
    | _ => [] := by
  unfold kidsAt
  dsimp only
  rw [h]
mutual
theorem OvOk.mono (s : Ext F F') : ∀ (x : OV) (v : V), (∀ y ∈ fpv H x v, H' y = H y) → OvOk K F H x v → OvOk K F' H' x v
  | .d x, v, _, h => by
    rw [OvOk] at h ⊢
    exact h.mono s
  | .l xs, v, e, h => by
    rw [OvOk] at h ⊢
    obtain ⟨a, vs, rfl, h1, h2⟩ := h
    rw [fpv, kids_of h1] at e
    exact ⟨a, vs, rfl, (e a (List.mem_append_left _ (List.mem_singleton.mpr rfl))).trans h1, OvAll.mono s xs vs (fun y hy => e y (List.mem_append_right _ hy)) h2⟩
  | .k _ xs, v, e, h => by
    rw [OvOk] at h ⊢
    obtain ⟨a, us, rfl, h1, h3, h2⟩ := h
    rw [fpv, kids_of h1] at e
    exact ⟨a, us, rfl, (e a (List.mem_append_left _ (List.mem_singleton.mpr rfl))).trans h1, h3, OvAll.mono s xs _ (fun y hy => e y (List.mem_append_right _ hy)) h2⟩
  | .t _ xs, v, e, h => by
    rw [OvOk] at h ⊢
    obtain ⟨a, us, rfl, h1, h3, h2⟩ := h
    rw [fpv, kids_of h1] at e
    exact ⟨a, us, rfl, (e a (List.mem_append_left _ (List.mem_singleton.mpr rfl))).trans h1, h3, OvAll.mono s xs _ (fun y hy => e y (List.mem_append_right _ hy)) h2⟩
  | .ins _ _ xs, v, e, h => by
    rw [OvOk] at h ⊢
    obtain ⟨a, dx, us, rfl, h1, h3, h2⟩ := h
    rw [fpv, kids_of h1] at e
    exact ⟨a, dx, us, rfl, (e a (List.mem_append_left _ (List.mem_singleton.mpr rfl))).trans h1, h3, OvAll.mono s xs _ (fun y hy => e y (List.mem_append_right _ hy)) h2⟩
theorem OvAll.mono (s : Ext F F') : ∀ (xs : List OV) (vs : List V), (∀ y ∈ fpl H xs vs, H' y = H y) → OvAll K F H xs vs → OvAll K F' H' xs vs
  | [], vs, _, h => by
    rw [OvAll] at h ⊢
    exact h
  | x :: xs, vs, e, h => by
    rw [OvAll] at h ⊢
    obtain ⟨v, us, rfl, h1, h2⟩ := h
    rw [fpl] at e
    exact ⟨v, us, rfl, OvOk.mono s x v (fun y hy => e y (List.mem_append_left _ hy)) h1, OvAll.mono s xs us (fun y hy => e y (List.mem_append_right _ hy)) h2⟩
end
mutual
theorem OvOk.pl : ∀ (x : OV) (v : V), OvOk K F H x v → ∀ y ∈ fpv H x v, ∃ o, H y = some o ∧ plain o = true
  | .d x, v, h, y, hy => by
    rw [fpv] at hy
    cases hy
  | .l xs, v, h, y, hy => by
    rw [OvOk] at h
    obtain ⟨a, vs, rfl, h1, h2⟩ := h
    rw [fpv, kids_of h1] at hy
    rcases List.mem_append.mp hy with hy | hy
    · cases List.mem_singleton.mp hy
      exact ⟨_, h1, rfl⟩
    · exact OvAll.pl xs vs h2 y hy
  | .k _ xs, v, h, y, hy => by
    rw [OvOk] at h
    obtain ⟨a, us, rfl, h1, h3, h2⟩ := h
    rw [fpv, kids_of h1] at hy
    rcases List.mem_append.mp hy with hy | hy
    · cases List.mem_singleton.mp hy
      exact ⟨_, h1, rfl⟩
    · exact OvAll.pl xs _ h2 y hy
  | .t _ xs, v, h, y, hy => by
    rw [OvOk] at h
    obtain ⟨a, us, rfl, h1, h3, h2⟩ := h
    rw [fpv, kids_of h1] at hy
    rcases List.mem_append.mp hy with hy | hy
    · cases List.mem_singleton.mp hy
      exact ⟨_, h1, rfl⟩
    · exact OvAll.pl xs _ h2 y hy
  | .ins _ _ xs, v, h, y, hy => by
    rw [OvOk] at h
    obtain ⟨a, dx, us, rfl, h1, h3, h2⟩ := h
    rw [fpv, kids_of h1] at hy
    rcases List.mem_append.mp hy with hy | hy
    · cases List.mem_singleton.mp hy
      exact ⟨_, h1, rfl⟩
    · exact OvAll.pl xs _ h2 y hy
theorem OvAll.pl : ∀ (xs : List OV) (vs : List V), OvAll K F H xs vs → ∀ y ∈ fpl H xs vs, ∃ o, H y = some o ∧ plain o = true
  | [], vs, h, y, hy => by
    rw [fpl] at hy
    cases hy
  | x :: xs, vs, h, y, hy => by
    rw [OvAll] at h
    obtain ⟨v, us, rfl, h1, h2⟩ := h
    rw [fpl] at hy
    rcases List.mem_append.mp hy with hy | hy
    · exact OvOk.pl x v h1 y hy
    · exact OvAll.pl xs us h2 y hy
end
theorem OvAll.len : ∀ (xs : List OV) (vs : List V), OvAll K F H xs vs → vs.length = xs.length
  | [], vs, h => by
    rw [OvAll] at h
    rw [h]
    rfl
  | x :: xs, vs, h => by
    rw [OvAll] at h
    obtain ⟨v, us, rfl, h1, h2⟩ := h
    rw [List.length_cons, List.length_cons, OvAll.len xs us h2]
theorem frzL_len : ∀ xs : List OV, (OV.frzL xs).length = xs.length
  | [] => by rw [OV.frzL]; rfl
  | x :: xs => by rw [OV.frzL, List.length_cons, List.length_cons, frzL_len xs]
theorem zip_fst {α β : Type} : ∀ (ks : List α) (ys : List β), ys.length = ks.length → (ks.zip ys).map (·.1) = ks
  | [], ys, _ => by simp
  | k :: ks, [], h => by simp at h
  | k :: ks, y :: ys, h => by
    rw [List.zip_cons_cons, List.map_cons, zip_fst ks ys (by simpa using h)]
theorem zip_snd {α β : Type} : ∀ (ks : List α) (ys : List β), ys.length = ks.length → (ks.zip ys).map (·.2) = ys
  | [], [], _ => rfl
  | [], y :: ys, h => by simp at h
  | k :: ks, [], h => by simp at h
  | k :: ks, y :: ys, h => by
    rw [List.zip_cons_cons, List.map_cons, zip_snd ks ys (by simpa using h)]
mutual
theorem OvOk.hold (s : Ext F F') : ∀ (x : OV) (v : V), OvOk K F H x v → (∀ y ∈ fpv H x v, F' y = H y) → Hold K F' v x.frz
  | .d x, v, h, _ => by
    rw [OvOk] at h
    rw [OV.frz]
    exact h.mono s
  | .l xs, v, h, e => by
    rw [OvOk] at h
    obtain ⟨a, vs, rfl, h1, h2⟩ := h
    rw [fpv, kids_of h1] at e
    rw [OV.frz]
    exact .lst ((e a (List.mem_append_left _ (List.mem_singleton.mpr rfl))).trans h1) (OvAll.hold s xs vs h2 fun y hy => e y (List.mem_append_right _ hy))
  | .k ks xs, v, h, e => by
    rw [OvOk] at h
    obtain ⟨a, us, rfl, h1, h3, h2⟩ := h
    rw [fpv, kids_of h1] at e
    rw [OV.frz]
    have hl : (OV.frzL xs).length = ks.length := by
      have := OvAll.len xs _ h2
      rw [List.length_map] at this
      rw [frzL_len, ← this, ← h3, List.length_map]
    exact .dk (.inl ((e a (List.mem_append_left _ (List.mem_singleton.mpr rfl))).trans h1)) (by rw [zip_fst _ _ hl, h3]) (by rw [zip_snd _ _ hl]; exact OvAll.hold s xs _ h2 fun y hy => e y (List.mem_append_right _ hy))
  | .t ks xs, v, h, e => by
    rw [OvOk] at h
    obtain ⟨a, us, rfl, h1, h3, h2⟩ := h
    rw [fpv, kids_of h1] at e
    rw [OV.frz]
    have hl : (OV.frzL xs).length = ks.length := by
      have := OvAll.len xs _ h2
      rw [List.length_map] at this
      rw [frzL_len, ← this, ← h3, List.length_map]
    exact .dt (.inl ((e a (List.mem_append_left _ (List.mem_singleton.mpr rfl))).trans h1)) (by rw [zip_fst _ _ hl, h3]) (by rw [zip_snd _ _ hl]; exact OvAll.hold s xs _ h2 fun y hy => e y (List.mem_append_right _ hy))
  | .ins C ks xs, v, h, e => by
    rw [OvOk] at h
    obtain ⟨a, dx, us, rfl, h1, h3, h2⟩ := h
    rw [fpv, kids_of h1] at e
    rw [OV.frz]
    have hl : (OV.frzL xs).length = ks.length := by
      have := OvAll.len xs _ h2
      rw [List.length_map] at this
      rw [frzL_len, ← this, ← h3, List.length_map]
    exact .ins ((e a (List.mem_append_left _ (List.mem_singleton.mpr rfl))).trans h1) (by rw [zip_fst _ _ hl, h3]) (by rw [zip_snd _ _ hl]; exact OvAll.hold s xs _ h2 fun y hy => e y (List.mem_append_right _ hy))
theorem OvAll.hold (s : Ext F F') : ∀ (xs : List OV) (vs : List V), OvAll K F H xs vs → (∀ y ∈ fpl H xs vs, F' y = H y) → HoldAll K F' vs (OV.frzL xs)
  | [], vs, h, _ => by
    rw [OvAll] at h
    subst h
    rw [OV.frzL]
    exact .nil
  | x :: xs, vs, h, e => by
    rw [OvAll] at h
    obtain ⟨v, us, rfl, h1, h2⟩ := h
    rw [fpl] at e
    rw [OV.frzL]
    exact .cons (OvOk.hold s x v h1 fun y hy => e y (List.mem_append_left _ hy)) (OvAll.hold s xs us h2 fun y hy => e y (List.mem_append_right _ hy))
end
theorem fpv_root : ∀ {x : OV}, x.node → a ∈ fpv H x (.ref a)
  | .l _, _ => by rw [fpv]; exact List.mem_append_left _ (List.mem_singleton.mpr rfl)
  | .k _ _, _ => by rw [fpv]; exact List.mem_append_left _ (List.mem_singleton.mpr rfl)
  | .t _ _, _ => by rw [fpv]; exact List.mem_append_left _ (List.mem_singleton.mpr rfl)
  | .ins _ _ _, _ => by rw [fpv]; exact List.mem_append_left _ (List.mem_singleton.mpr rfl)
theorem OCOk.root : ∀ {c : OC}, OCOk K F H n a c → a ∈ fp H a c
  | .l _, _ => List.mem_singleton.mpr rfl
  | .k _, _ => List.mem_singleton.mpr rfl
  | .t _, _ => List.mem_singleton.mpr rfl
  | .ins _ _, _ => List.mem_singleton.mpr rfl
  | .pen, _ => List.mem_singleton.mpr rfl
  | .u _, _ => List.mem_singleton.mpr rfl
  | .tr _, h => fpv_root h.1
theorem fp_congr {c : OC} (e : ∀ y ∈ fp H a c, H' y = H y) : fp H' a c = fp H a c := by
  cases c <;> first | rfl | exact fpv_congr _ _ e
theorem OCOk.mono (s : Ext F F') (hn : n ≤ n') : ∀ {c : OC}, (∀ y ∈ fp H a c, H' y = H y) → OCOk K F H n a c → OCOk K F' H' n' a c
  | .l _, e, ⟨vs, h1, h2⟩ => ⟨vs, (e a (List.mem_singleton.mpr rfl)).trans h1, h2.mono s⟩
  | .k _, e, ⟨us, h1, h2, h3⟩ => ⟨us, (e a (List.mem_singleton.mpr rfl)).trans h1, h2, h3.mono s⟩
  | .t _, e, ⟨us, h1, h2, h3⟩ => ⟨us, (e a (List.mem_singleton.mpr rfl)).trans h1, h2, h3.mono s⟩
  | .ins _ _, e, ⟨dx, us, h1, h2, h3⟩ => ⟨dx, us, (e a (List.mem_singleton.mpr rfl)).trans h1, h2, h3.mono s⟩
  | .pen, e, h => PenAt.mono s (e a (List.mem_singleton.mpr rfl)) hn h
  | .u _, e, ⟨xs, h1, h2⟩ => ⟨xs, (e a (List.mem_singleton.mpr rfl)).trans h1, L2.Paired.mapP h2 fun _ _ z => ⟨z.1.mono s, z.2⟩⟩
  | .tr x, e, ⟨h1, h2, h3⟩ => ⟨h1, h2.mono s _ _ e, by rw [fpv_congr x _ e]; exact h3⟩
theorem plain_UD (a : Addr) (xs : List (List Int × Addr × Value)) : plain (UD a xs) = true := by
  classical
  exact decide_eq_true ⟨a, xs, rfl⟩
theorem OCOk.pl : ∀ {c : OC}, OCOk K F H n a c → ∀ y ∈ fp H a c, ∃ o, H y = some o ∧ plain o = true
  | .l _, ⟨vs, h1, _⟩, y, hy => by cases List.mem_singleton.mp hy; exact ⟨_, h1, rfl⟩
  | .k _, ⟨us, h1, _⟩, y, hy => by cases List.mem_singleton.mp hy; exact ⟨_, h1, rfl⟩
  | .t _, ⟨us, h1, _⟩, y, hy => by cases List.mem_singleton.mp hy; exact ⟨_, h1, rfl⟩
  | .ins _ _, ⟨dx, us, h1, _⟩, y, hy => by cases List.mem_singleton.mp hy; exact ⟨_, h1, rfl⟩
  | .pen, ⟨lc, cs, i, g, k, f, h1, _⟩, y, hy => by cases List.mem_singleton.mp hy; exact ⟨_, h1, rfl⟩
  | .u _, ⟨xs, h1, _⟩, y, hy => by cases List.mem_singleton.mp hy; exact ⟨_, h1, plain_UD _ _⟩
  | .tr x, ⟨_, h2, _⟩, y, hy => h2.pl _ _ y hy
theorem plain_lax {o : HO} (h : plain o = true) : lax o = false := by cases o <;> first | rfl | cases h
theorem plain_tab {o : HO} (h : plain o = true) {b : Addr} : ¬ ((∃ ps, o = .tbl ps) ∨ ∃ q, o = LamX.CodeO b q) := by
  by_cases hu : ∃ a xs, o = UD a xs
  · obtain ⟨a, xs, rfl⟩ := hu
    rintro (⟨_, z⟩ | ⟨_, z⟩)
    · cases z
    · exact UD_code z
  cases o with
  | ext φ =>
    classical
    obtain ⟨a, xs, e⟩ := of_decide_eq_true h
    exact absurd ⟨a, xs, by rw [e]; rfl⟩ hu
  | _ => first | (rintro (⟨_, z⟩ | ⟨_, z⟩) <;> cases z; done) | cases h
theorem plain_tbl {o : HO} (h : plain o = true) : ∀ ps, o ≠ .tbl ps := fun ps z => plain_tab (b := 0) h (.inl ⟨ps, z⟩)
theorem OCOk.there {c : OC} (h : OCOk K F H n a c) : ∃ o, H a = some o := let ⟨o, e, _⟩ := h.pl a h.root; ⟨o, e⟩
/-- own cells at other addresses -/
theorem CellOk.mono {o : Option V} (s : Ext F F') (hn : n ≤ n') : ∀ {c : Cell}, CellOk B K F H n o c → (∀ a b c', o = some (.ref a) → c = .o b c' → ∀ x ∈ fp H a c', H' x = H x ∧ F' x = none) → CellOk B K F' H' n' o c
  | .un, _, _ => trivial
  | .d _, ⟨v, e, h⟩, _ => ⟨v, e, h.mono s⟩
  | .o b c, ⟨a, e, h1, h2, h3, h4⟩, k => by
    have ek := k a b c e rfl
    have ef := fp_congr (H' := H') (c := c) fun y hy => (ek y hy).1
    exact ⟨a, e, fun x hx => (ek x (ef ▸ hx)).2, OCOk.mono s hn (fun y hy => (ek y hy).1) h2, h3, fun x hx => h4 x (ef ▸ hx)⟩
/-- what each owned slot is -/
theorem Core.ownF (S : Core B K Tz F H n σ env) {i : Nat} {b : Bool} {c : OC} (e : env[i]? = some (.o b c)) :
    ∃ a, σ[i]? = some (some (.ref a)) ∧ (∀ x ∈ fp H a c, F x = none) ∧ OCOk K F H n a c ∧ (b = true → a ∈ B.bor) ∧ (∀ x ∈ fp H a c, OwnAs B b x) := by
  obtain ⟨o, e1, a, e2, h⟩ := S.at_ i _ e
  subst e2
  exact ⟨a, e1, h⟩
theorem Core.ownAt (S : Core B K Tz F H n σ env) {i : Nat} {b : Bool} {c : OC} (e : env[i]? = some (.o b c)) (ea : σ[i]? = some (some (.ref a))) :
    (∀ x ∈ fp H a c, F x = none) ∧ OCOk K F H n a c ∧ (b = true → a ∈ B.bor) ∧ (∀ x ∈ fp H a c, OwnAs B b x) := by
  obtain ⟨a', e1, h⟩ := S.ownF e
  rw [ea] at e1
  cases e1
  exact h
/-- an owned slot -/
theorem Core.own (S : Core B K Tz F H n σ env) {i : Nat} {b : Bool} {c : OC} (e : env[i]? = some (.o b c)) :
    ∃ a, σ[i]? = some (some (.ref a)) ∧ F a = none ∧ OCOk K F H n a c ∧ (b = true → a ∈ B.bor) := by
  obtain ⟨a, e1, h1, h2, h3, h4⟩ := S.ownF e
  exact ⟨a, e1, h1 a h2.root, h2, h3⟩
/-- other heaps: what the slots own stands -/
theorem Core.step (S : Core B K Tz F H n σ env) (s : Ext F F') (hn : n ≤ n') (hk : ∀ (i : Nat) (b : Bool) (c : OC) (a : Addr), env[i]? = some (.o b c) → σ[i]? = some (some (.ref a)) → ∀ x ∈ fp H a c, H' x = H x ∧ F' x = none) :
    (∀ (i : Nat) (c : Cell), env[i]? = some c → ∃ o, σ[i]? = some o ∧ CellOk B K F' H' n' o c) ∧
    (∀ (i j : Nat) (b b' : Bool) (c c' : OC) (a a' x : Addr), env[i]? = some (.o b c) → env[j]? = some (.o b' c') → σ[i]? = some (some (.ref a)) → σ[j]? = some (some (.ref a')) → x ∈ fp H' a c → x ∈ fp H' a' c' → i = j) := by
  refine ⟨fun i c e => ?_, fun i j b b' c c' a a' x ei ej si sj xi xj => ?_⟩
  · obtain ⟨o, e1, h⟩ := S.at_ i c e
    refine ⟨o, e1, h.mono s hn fun a b c' ea ec => ?_⟩
    subst ea
    subst ec
    exact hk i b c' a e e1
  · rw [fp_congr fun y hy => (hk i b c a ei si y hy).1] at xi
    rw [fp_congr fun y hy => (hk j b' c' a' ej sj y hy).1] at xj
    exact S.sep i j b b' c c' a a' x ei ej si sj xi xj
theorem SOk.mono (S : SOk B K Z F H n σ env) (hn : n ≤ n') : SOk B K Z F H n' σ env :=
  have st := S.toCore.step (F' := F) (H' := H) (Ext.refl _) hn fun i b c a ei si x hx => ⟨rfl, (S.toCore.ownAt ei si).1 x hx⟩
  { S with at_ := st.1, sep := st.2, lnk := S.lnk.mono (Ext.refl _) hn }
/-- new objects: those of G (fresh), some of them frozen at once -/
theorem SOk.grow (S : SOk B K Z F H n σ env) (s1 : Same F F') (s2 : Same F' H') (k : Same H H') (hf : ∀ a, (H a).isSome = true → F' a = F a) : SOk B K Z F' H' n σ env := by
  have st := S.toCore.step (F' := F') (H' := H') (Ext.of s1) (Nat.le_refl _) fun i b c a ei si x hx => by
    obtain ⟨h1, h2, _⟩ := S.toCore.ownAt ei si
    obtain ⟨o2, e2, _⟩ := h2.pl x hx
    exact ⟨by rw [e2]; exact k _ _ e2, by rw [hf _ (by rw [e2]; rfl)]; exact h1 x hx⟩
  exact {
    same := s2
    len := S.len
    at_ := st.1
    sep := st.2
    fr := fun a o e hb hl => (S.fr a o e hb hl).keep fun o1 q => k _ _ q
    tb := tabs_keep S.tb fun b o e _ => k b o e
    lnk := S.lnk.mono (Ext.of s1) (Nat.le_refl _)
    ff := fun a e hb hl => (S.ff a e hb hl).imp (fun q => (hf a (S.dom a e)).trans q) id
    bd := S.bd
    lb := S.lb
    lk := fun p hp => by rw [hf p.1 (by rw [S.same _ _ (S.lk p hp)]; rfl)]; exact S.lk p hp
    bs := S.bs
    dom := fun a e => by
      obtain ⟨o, h⟩ := Option.isSome_iff_exists.mp (S.dom a e)
      rw [k _ _ h]
      rfl }
theorem OwnAs.at {B : Base} {b : Bool} {x : Addr} (h : OwnAs B b x) : OwnAt B x := h.imp And.right id
theorem Core.fresh0 (S : Core B K Tz F H n σ env) {p : Addr} (hp : H p = none) : B.H0 p = none := by
  cases e : B.H0 p with
  | none => rfl
  | some o =>
    have := S.dom p (by rw [e]; rfl)
    rw [hp] at this
    cases this
theorem Core.freshF (S : Core B K Tz F H n σ env) {p : Addr} (hp : H p = none) : F p = none := S.same.free hp
theorem same_upd {p : Addr} {o : HO} (hp : H p = none) : Same H (upd H p o) := fun b u e => by rw [upd_ne (ne_of_none e hp)]; exact e
theorem same_upd2 {p : Addr} {o : HO} (s : Same F H) : Same (upd F p o) (upd H p o) := fun b u e => by
  by_cases h : b = p
  · subst h; rw [upd_same] at e ⊢; exact e
  · rw [upd_ne h] at e ⊢; exact s _ _ e
/-- a new object, frozen -/
theorem SOk.alloc (S : SOk B K Z F H n σ env) {p : Addr} {o : HO} (hp : H p = none) : SOk B K Z (upd F p o) (upd H p o) n σ env ∧ Same F (upd F p o) :=
  ⟨S.grow (same_upd (S.freshF hp)) (same_upd2 S.same) (same_upd hp) fun a ha => upd_ne (by rintro rfl; rw [hp] at ha; cases ha), same_upd (S.freshF hp)⟩
/-- a new object, not frozen -/
theorem SOk.allocO (S : SOk B K Z F H n σ env) {p : Addr} {o : HO} (hp : H p = none) : SOk B K Z F (upd H p o) n σ env :=
  S.grow (fun _ _ q => q) (fun b u e => by rw [upd_ne (ne_of_none (S.same _ _ e) hp)]; exact S.same _ _ e) (same_upd hp) fun a ha => rfl
theorem Core.dat (S : Core B K Tz F H n σ env) {i : Nat} {x : DV} (e : env[i]? = some (.d x)) : ∃ v, σ[i]? = some (some v) ∧ Hold K F v x := by
  obtain ⟨o, e1, v, e2, h⟩ := S.at_ i _ e
  subst e2
  exact ⟨v, e1, h⟩
/-- some addresses are frozen -/
def thaw (F H : Hp) (l : List Addr) : Hp := fun x => if x ∈ l then H x else F x
theorem thaw_in {l : List Addr} {x : Addr} (h : x ∈ l) : thaw F H l x = H x := if_pos h
theorem thaw_out {l : List Addr} {x : Addr} (h : x ∉ l) : thaw F H l x = F x := if_neg h
theorem same_thaw0 {l : List Addr} (h : ∀ x ∈ l, F x = none) : Same F (thaw F H l) := fun b u e => by
  rw [thaw_out fun z => by rw [h b z] at e; cases e]
  exact e
theorem same_thaw {l : List Addr} (s : Same F H) : Same (thaw F H l) H := fun b u e => by
  by_cases z : b ∈ l
  · rw [thaw_in z] at e; exact e
  · rw [thaw_out z] at e; exact s _ _ e
/-- what an own object holds, where it is frozen -/
theorem OCOk.toHold : ∀ {c : OC} {d : DV}, c.frz = some d → OCOk K F H n a c → (∀ x ∈ fp H a c, F x = none) → Hold K (thaw F H (fp H a c)) (.ref a) d
  | .l xs, d, e, ⟨vs, h1, h2⟩, hf => by
    cases e
    exact .lst ((thaw_in (List.mem_singleton.mpr rfl)).trans h1) (h2.mono (Ext.of (same_thaw0 hf)))
  | .k kvs, d, e, ⟨us, h1, h2, h3⟩, hf => by
    cases e
    exact .dk (.inl ((thaw_in (List.mem_singleton.mpr rfl)).trans h1)) h2 (h3.mono (Ext.of (same_thaw0 hf)))
  | .t kvs, d, e, ⟨us, h1, h2, h3⟩, hf => by
    cases e
    exact .dt (.inl ((thaw_in (List.mem_singleton.mpr rfl)).trans h1)) h2 (h3.mono (Ext.of (same_thaw0 hf)))
  | .ins C fs, d, e, ⟨dx, us, h1, h2, h3⟩, hf => by
    cases e
    exact .ins ((thaw_in (List.mem_singleton.mpr rfl)).trans h1) h2 (h3.mono (Ext.of (same_thaw0 hf)))
  | .pen, d, e, _, _ => by cases e
  | .u _, d, e, _, _ => by cases e
  | .tr x, d, e, ⟨_, h2, _⟩, hf => by
    cases e
    exact h2.hold (Ext.of (same_thaw0 hf)) _ _ fun y hy => thaw_in hy
theorem getElem?_set_cases {α : Type} {l : List α} {i j : Nat} {x y : α} (e : (l.set i x)[j]? = some y) : (i = j ∧ y = x ∧ i < l.length) ∨ (i ≠ j ∧ l[j]? = some y) := by
  by_cases h : i = j
  · subst h
    have hl : i < l.length := by
      by_cases hl : i < l.length
      · exact hl
      · rw [List.getElem?_eq_none (by simp; omega)] at e; cases e
    rw [List.getElem?_set_self hl] at e
    cases e
    exact .inl ⟨rfl, rfl, hl⟩
  · rw [List.getElem?_set_ne h] at e
    exact .inr ⟨h, e⟩
/-- freezing addresses that no other slot owns -/
theorem SOk.thawS (S : SOk B K Z F H n σ env) {l : List Addr} (hl : ∀ x ∈ l, F x = none) (hp : ∀ x ∈ l, ∃ o, H x = some o ∧ plain o = true) (h0 : ∀ x ∈ l, OwnAt B x) (ho : ∀ (i : Nat) (b : Bool) (c : OC) (a : Addr), env[i]? = some (.o b c) → σ[i]? = some (some (.ref a)) → ∀ x ∈ fp H a c, x ∉ l) :
    SOk B K Z (thaw F H l) H n σ env := by
  have s1 : Same F (thaw F H l) := same_thaw0 hl
  have st := S.toCore.step (F' := thaw F H l) (H' := H) (Ext.of s1) (Nat.le_refl _) fun i b c a ei si x hx => ⟨rfl, by rw [thaw_out (ho i b c a ei si x hx)]; exact (S.toCore.ownAt ei si).1 x hx⟩
  refine ⟨⟨same_thaw S.same, S.len, st.1, st.2, S.fr, fun b hb hn hlc => ?_, S.bd, S.lb, fun p hp => ?_, S.bs, S.dom, S.tb⟩, S.lnk.mono (Ext.of s1) (Nat.le_refl _)⟩
  · unfold TF
    rw [thaw_out fun z => by
      rcases h0 b z with q | q | q
      · exact hn q
      · rw [q] at hb
        cases hb
      · exact hlc q]
    exact S.ff b hb hn hlc
  · have q := S.lk p hp
    rw [thaw_out fun z => by rw [hl _ z] at q; cases q]
    exact q
/-- a slot is forgotten -/
theorem SOk.drop (S : SOk B K Z F H n σ env) {i : Nat} {c : OC} (e : env[i]? = some (.o false c)) : SOk B K Z F H n σ (env.set i .un) := by
  refine ⟨⟨S.same, by rw [List.length_set]; exact S.len, fun j cj ej => ?_, fun j k b b' c c' a a' x ej ek sj sk xj xk => ?_, S.fr, S.ff, S.bd, S.lb, S.lk, fun p hp => ?_, S.dom, S.tb⟩, S.lnk⟩
  · rcases getElem?_set_cases ej with ⟨rfl, rfl, _⟩ | ⟨ne, ej⟩
    · obtain ⟨o, e1, _⟩ := S.at_ _ _ e
      exact ⟨o, e1, trivial⟩
    · exact S.at_ j cj ej
  · rcases getElem?_set_cases ej with ⟨_, z, _⟩ | ⟨_, ej⟩
    · cases z
    · rcases getElem?_set_cases ek with ⟨_, z, _⟩ | ⟨_, ek⟩
      · cases z
      · exact S.sep j k b b' c c' a a' x ej ek sj sk xj xk
  · obtain ⟨⟨oc, q1⟩, q2⟩ := S.bs p hp
    exact ⟨⟨oc, by rw [List.getElem?_set_ne (by intro z; rw [z, q1] at e; cases e)]; exact q1⟩, q2⟩
/-- new, or of a slot that gave it up -/
def NewAt (B : Base) (x : Addr) : Prop := B.H0 x = none ∨ x ∈ B.loc
theorem NewAt.new {B : Base} {x : Addr} (h : B.H0 x = none) : NewAt B x := .inl h
/-- what a value evaluated is: data, or an object that no slot knows -/
def Res (B : Base) (K : PySem.W.Frag) (F H : Hp) (n : Nat) (σ : L2.St) (env : List Cell) (v : V) (c : Cell) : Prop :=
  CellOk B K F H n (some v) c ∧ c.bor = false ∧ (∀ b oc a, c = .o b oc → v = .ref a → ∀ x ∈ fp H a oc, (∀ (i : Nat) (b' : Bool) (c' : OC) (a' : Addr), env[i]? = some (.o b' c') → σ[i]? = some (some (.ref a')) → x ∉ fp H a' c') ∧ NewAt B x)
theorem Res.mono {v : V} {c : Cell} (h : Res B K F H n σ env v c) (hn : n ≤ n') : Res B K F H n' σ env v c := by
  refine ⟨h.1.mono (Ext.refl _) hn fun a b c' e ec x hx => ⟨rfl, ?_⟩, h.2⟩
  subst ec
  obtain ⟨a', e', h1, _⟩ := h.1
  rw [e'] at e
  cases e
  exact h1 x hx
theorem Res.dat {v : V} {x : DV} (h : Hold K F v x) : Res B K F H n σ env v (.d x) := ⟨⟨v, rfl, h⟩, rfl, fun b oc a z => by cases z⟩
/-- a result that is owned -/
theorem Res.mk {c : OC} (hF : ∀ x ∈ fp H a c, F x = none) (h : OCOk K F H n a c) (h2 : ∀ x ∈ fp H a c, (∀ (i : Nat) (b' : Bool) (c' : OC) (a' : Addr), env[i]? = some (.o b' c') → σ[i]? = some (some (.ref a')) → x ∉ fp H a' c') ∧ NewAt B x) : Res B K F H n σ env (.ref a) (.o false c) :=
  ⟨⟨a, rfl, hF, h, (fun z => by cases z), fun x hx => .inr (h2 x hx).2⟩, rfl, fun b oc a' e1 e2 x hx => by
    cases e1
    cases e2
    exact h2 x hx⟩
/-- a fresh address is in no slot's object -/
theorem Core.notin (S : Core B K Tz F H n σ env) {p : Addr} (hp : H p = none) (i : Nat) (b : Bool) (c : OC) (a' : Addr) (e : env[i]? = some (.o b c)) (ea : σ[i]? = some (some (.ref a'))) : p ∉ fp H a' c := fun z => by
  obtain ⟨o, eo, _⟩ := (S.ownAt e ea).2.1.pl p z
  rw [hp] at eo
  cases eo
/-- an owned slot is frozen -/
theorem SOk.freeze (S : SOk B K Z F H n σ env) {i : Nat} {c : OC} {d : DV} (e : env[i]? = some (.o false c)) (hd : c.frz = some d) :
    ∃ a F', σ[i]? = some (some (.ref a)) ∧ SOk B K Z F' H n σ (env.set i (.d d)) ∧ Same F F' ∧ Hold K F' (.ref a) d := by
  obtain ⟨a, e1, h1, h2, h3, h4⟩ := S.ownF e
  have hh := OCOk.toHold hd h2 h1
  have s1 : Same F (thaw F H (fp H a c)) := same_thaw0 h1
  have S1 := (S.drop e).thawS (l := fp H a c) h1 h2.pl (fun x hx => (h4 x hx).at) fun j b c' a' ej sj x hx z => by
    rcases getElem?_set_cases ej with ⟨_, y, _⟩ | ⟨ne, ej⟩
    · cases y
    · exact ne (S.sep i j false b c c' a a' x e ej e1 sj z hx)
  refine ⟨a, _, e1, ⟨⟨S1.same, by rw [List.length_set]; exact S.len, fun j cj ej => ?_, fun j k b b' c1 c2 a1 a2 x ej ek sj sk xj xk => ?_, S1.fr, S1.ff, S1.bd, S1.lb, S1.lk, fun p hp => ?_, S1.dom, S1.tb⟩, S1.lnk⟩, s1, hh⟩
  · rcases getElem?_set_cases ej with ⟨rfl, rfl, _⟩ | ⟨ne, ej⟩
    · exact ⟨_, e1, _, rfl, hh⟩
    · exact S1.at_ j cj (by rw [List.getElem?_set_ne ne]; exact ej)
  · rcases getElem?_set_cases ej with ⟨_, z, _⟩ | ⟨n1, ej⟩
    · cases z
    · rcases getElem?_set_cases ek with ⟨_, z, _⟩ | ⟨n2, ek⟩
      · cases z
      · exact S.sep j k b b' c1 c2 a1 a2 x ej ek sj sk xj xk
  · obtain ⟨⟨oc, q1⟩, q2⟩ := S.bs p hp
    exact ⟨⟨oc, by rw [List.getElem?_set_ne (by intro z; rw [z, q1] at e; cases e)]; exact q1⟩, q2⟩
/-- a result is frozen -/
theorem SOk.frzRes (S : SOk B K Z F H n σ env) {v : V} {c : Cell} {d : DV} (r : Res B K F H n σ env v c) (hd : c.frz = some d) : ∃ F', SOk B K Z F' H n σ env ∧ Same F F' ∧ Hold K F' v d := by
  obtain ⟨r1, r2, r3⟩ := r
  cases c with
  | un => cases hd
  | d x =>
    cases hd
    obtain ⟨v', e, h⟩ := r1
    cases e
    exact ⟨F, S, fun _ _ q => q, h⟩
  | o b c =>
    cases b with
    | true => cases hd
    | false =>
      obtain ⟨a, e, h1, h2, h3, h4⟩ := r1
      cases e
      have hh := OCOk.toHold hd h2 h1
      exact ⟨_, S.thawS (l := fp H a c) h1 h2.pl (fun x hx => .inr (r3 _ _ _ rfl rfl x hx).2) fun j b c' a' ej sj x hx z => (r3 _ _ _ rfl rfl x z).1 j b c' a' ej sj hx, same_thaw0 h1, hh⟩
/-- a result is stored at a slot -/
theorem SOk.store (S : SOk B K Z F H n σ env) {v : V} {c : Cell} (r : Res B K F H n σ env v c) (i : Nat) (hi : ∀ c, env[i]? = some c → c.bor = false) : SOk B K Z F H n (σ.set i (some v)) (env.set i c) := by
  obtain ⟨r1, r2, r3⟩ := r
  refine ⟨⟨S.same, by rw [List.length_set, List.length_set]; exact S.len, fun j cj ej => ?_, fun j k b b' c1 c2 a1 a2 x ej ek sj sk xj xk => ?_, S.fr, S.ff, S.bd, S.lb, S.lk, fun p hp => ?_, S.dom, S.tb⟩, S.lnk⟩
  · rcases getElem?_set_cases ej with ⟨rfl, rfl, hl⟩ | ⟨ne, ej⟩
    · exact ⟨some v, List.getElem?_set_self (by rw [S.len]; exact hl), r1⟩
    · obtain ⟨oj, e3, h⟩ := S.at_ j cj ej
      exact ⟨oj, by rw [List.getElem?_set_ne ne]; exact e3, h⟩
  · rcases getElem?_set_cases ej with ⟨rfl, z, hl⟩ | ⟨ne, ej'⟩
    · rcases getElem?_set_cases ek with ⟨rfl, _, _⟩ | ⟨ne2, ek⟩
      · rfl
      · rw [List.getElem?_set_self (by rw [S.len]; exact hl)] at sj
        rw [List.getElem?_set_ne ne2] at sk
        cases sj
        exact absurd xk ((r3 _ _ _ z.symm rfl x xj).1 k b' c2 a2 ek sk)
    · rcases getElem?_set_cases ek with ⟨rfl, z, hl⟩ | ⟨ne2, ek⟩
      · rw [List.getElem?_set_self (by rw [S.len]; exact hl)] at sk
        rw [List.getElem?_set_ne ne] at sj
        cases sk
        exact absurd xj ((r3 _ _ _ z.symm rfl x xk).1 j b c1 a1 ej' sj)
      · rw [List.getElem?_set_ne ne] at sj
        rw [List.getElem?_set_ne ne2] at sk
        exact S.sep j k b b' c1 c2 a1 a2 x ej' ek sj sk xj xk
  · obtain ⟨⟨oc, q1⟩, q2⟩ := S.bs p hp
    have ne : i ≠ p.1 := by
      intro z
      have := hi _ (z ▸ q1)
      cases this
    exact ⟨⟨oc, by rw [List.getElem?_set_ne ne]; exact q1⟩, by rw [List.getElem?_set_ne ne]; exact q2⟩
/-- objects of an owned slot are written -/
theorem SOk.writeG (S : SOk B K Z F H n σ env) {i : Nat} {b : Bool} {c c' : OC} (e : env[i]? = some (.o b c)) (ea : σ[i]? = some (some (.ref a))) (hk : ∀ x, x ∉ fp H a c → H' x = H x) (hd : ∀ x ∈ fp H a c, ∃ o, H' x = some o ∧ plain o = true) (hfp : ∀ x ∈ fp H' a c', x ∈ fp H a c) (h : OCOk K F H' n a c') :
    SOk B K Z F H' n σ (env.set i (.o b c')) := by
  obtain ⟨h1, h2, h3, h4⟩ := S.toCore.ownAt e ea
  have other : ∀ (j : Nat) (b2 : Bool) (c2 : OC) (a2 : Addr), env[j]? = some (.o b2 c2) → σ[j]? = some (some (.ref a2)) → i ≠ j → ∀ x ∈ fp H a2 c2, x ∉ fp H a c := fun j b2 c2 a2 ej sj ne x hx z => ne (S.sep i j b b2 c c2 a a2 x e ej ea sj z hx)
  have fpo : ∀ (j : Nat) (b2 : Bool) (c2 : OC) (a2 : Addr), env[j]? = some (.o b2 c2) → σ[j]? = some (some (.ref a2)) → i ≠ j → fp H' a2 c2 = fp H a2 c2 := fun j b2 c2 a2 ej sj ne => fp_congr fun y hy => hk y (other j b2 c2 a2 ej sj ne y hy)
  refine ⟨⟨fun q u eq => ?_, by rw [List.length_set]; exact S.len, fun j cj ej => ?_, fun j k b1 b2 c1 c2 a1 a2 x ej ek sj sk xj xk => ?_, fun q u eq hq hl => ?_, S.ff, S.bd, S.lb, S.lk, fun p hp => ?_, fun q hq => ?_, tabs_keep S.tb fun q u eq tc => ?_⟩, S.lnk⟩
  · rw [hk q fun z => by rw [h1 q z] at eq; cases eq]
    exact S.same _ _ eq
  · rcases getElem?_set_cases ej with ⟨rfl, rfl, hl⟩ | ⟨ne, ej⟩
    · exact ⟨_, ea, a, rfl, fun x hx => h1 x (hfp x hx), h, h3, fun x hx => h4 x (hfp x hx)⟩
    · obtain ⟨oj, e3, hj⟩ := S.at_ j cj ej
      refine ⟨oj, e3, hj.mono (Ext.refl _) (Nat.le_refl _) fun a2 b2 c2 eq ec x hx => ?_⟩
      subst eq
      subst ec
      exact ⟨hk x (other j b2 c2 a2 ej e3 ne x hx), (S.toCore.ownAt ej e3).1 x hx⟩
  · rcases getElem?_set_cases ej with ⟨rfl, zj, _⟩ | ⟨nj, ej⟩
    · rcases getElem?_set_cases ek with ⟨rfl, _, _⟩ | ⟨nk, ek⟩
      · rfl
      · cases zj
        rw [ea] at sj
        cases sj
        rw [fpo k b2 c2 a2 ek sk nk] at xk
        exact S.sep _ k _ b2 c c2 _ a2 x e ek ea sk (hfp x xj) xk
    · rcases getElem?_set_cases ek with ⟨rfl, zk, _⟩ | ⟨nk, ek⟩
      · cases zk
        rw [ea] at sk
        cases sk
        rw [fpo j b1 c1 a1 ej sj nj] at xj
        exact S.sep j _ b1 _ c1 c a1 _ x ej e sj ea xj (hfp x xk)
      · rw [fpo j b1 c1 a1 ej sj nj] at xj
        rw [fpo k b2 c2 a2 ek sk nk] at xk
        exact S.sep j k b1 b2 c1 c2 a1 a2 x ej ek sj sk xj xk
  · rw [hk q fun z => by
      rcases h4 q z with y | y | y
      · exact hq y.2
      · rw [y] at eq; cases eq
      · exact hl y]
    exact S.fr q u eq hq hl
  · obtain ⟨⟨oc, q1⟩, q2⟩ := S.bs p hp
    refine ⟨?_, q2⟩
    by_cases z : i = p.1
    · subst z
      rw [q1] at e
      cases e
      exact ⟨c', List.getElem?_set_self (List.getElem?_eq_some_iff.mp q1).1⟩
    · exact ⟨oc, by rw [List.getElem?_set_ne z]; exact q1⟩
  · by_cases hqa : q ∈ fp H a c
    · obtain ⟨o, eo, _⟩ := hd q hqa
      rw [eo]
      rfl
    · rw [hk q hqa]; exact S.dom q hq
  · rw [hk q fun z => by
      obtain ⟨o, eo, po⟩ := h2.pl q z
      rw [eq] at eo
      cases eo
      exact plain_tab po tc]
    exact eq
/-- a thing with one address -/
def OC.one : OC → Bool
  | .tr _ => false
  | _ => true
theorem fp_one {c : OC} (h : c.one = true) : fp H a c = [a] := by cases c <;> first | rfl | cases h
/-- the object of an owned slot is written -/
theorem SOk.write (S : SOk B K Z F H n σ env) {i : Nat} {b : Bool} {c c' : OC} {o : HO} (e : env[i]? = some (.o b c)) (ea : σ[i]? = some (some (.ref a))) (h : OCOk K F (upd H a o) n a c') (h1 : c.one = true := by rfl) (h2 : c'.one = true := by rfl) :
    SOk B K Z F (upd H a o) n σ (env.set i (.o b c')) := by
  refine S.writeG e ea (fun x hx => ?_) (fun x hx => ?_) (fun x hx => ?_) h
  · rw [fp_one h1] at hx
    exact upd_ne (by rintro rfl; exact hx (List.mem_singleton.mpr rfl))
  · rw [fp_one h1] at hx
    cases List.mem_singleton.mp hx
    obtain ⟨o', e', p⟩ := h.pl a h.root
    exact ⟨o', e', p⟩
  · rw [fp_one h1]
    rw [fp_one h2] at hx
    exact hx
/-- the addresses of the slots owned by this def alone; of what is borrowed, those within -/
def locAt (H : Hp) : Option Cell → Option (Option V) → List Addr
  | some (.o _ c), some (some (.ref a)) => fp H a c
  | _, _ => []
def locs (H : Hp) (bor : List Addr) (σ : L2.St) (env : List Cell) : List Addr := ((List.range env.length).flatMap fun i => locAt H env[i]? σ[i]?).filter fun x => !decide (x ∈ bor)
theorem mem_locs {bor : List Addr} {i : Nat} {b : Bool} {c : OC} {x : Addr} (e : env[i]? = some (.o b c)) (ea : σ[i]? = some (some (.ref a))) (hx : x ∈ fp H a c) : x ∈ bor ∨ x ∈ locs H bor σ env := by
  by_cases hb : x ∈ bor
  · exact .inl hb
  · right
    unfold locs
    refine List.mem_filter.mpr ⟨List.mem_flatMap.mpr ⟨i, List.mem_range.mpr (List.getElem?_eq_some_iff.mp e).1, ?_⟩, by rw [decide_eq_false hb]; rfl⟩
    rw [e, ea]
    exact hx
theorem of_mem_locs {bor : List Addr} {x : Addr} (h : x ∈ locs H bor σ env) : x ∉ bor ∧ ∃ (i : Nat) (b : Bool) (c : OC) (a : Addr), env[i]? = some (.o b c) ∧ σ[i]? = some (some (.ref a)) ∧ x ∈ fp H a c := by
  unfold locs at h
  obtain ⟨h, hb⟩ := List.mem_filter.mp h
  obtain ⟨i, _, h⟩ := List.mem_flatMap.mp h
  refine ⟨fun z => (by rw [decide_eq_true z] at hb; cases hb), ?_⟩
  unfold locAt at h
  split at h
  · rename_i b c a e1 e2
    exact ⟨i, b, c, a, e1, e2, h⟩
  · cases h
/-- the state as a new entry -/
def reb (B : Base) (F H : Hp) (σ : L2.St) (env : List Cell) : Base := ⟨H, F, B.bor, locs H B.bor σ env, B.lk, B.bs⟩
theorem Core.reb (S : Core B K Tz F H n σ env) : Core (reb B F H σ env) K Tz F H n σ env where
  same := S.same
  len := S.len
  at_ := fun i c e => by
    obtain ⟨o, e1, h⟩ := S.at_ i c e
    refine ⟨o, e1, ?_⟩
    cases c with
    | un => trivial
    | d x => exact h
    | o b c =>
      obtain ⟨a, e2, h1, h2, h3, h4⟩ := h
      subst e2
      refine ⟨a, rfl, h1, h2, h3, fun x hx => ?_⟩
      rcases mem_locs (bor := B.bor) e e1 hx with q | q
      · rcases h4 x hx with y | y | y
        · exact .inl y
        · have z := S.bd x q
          rw [y] at z
          cases z
        · exact absurd q (S.lb x y)
      · exact .inr (.inr q)
  sep := S.sep
  fr := fun a o e _ _ => .inl e
  ff := fun _ _ _ _ => .inl rfl
  bd := fun a ha => S.dom a (S.bd a ha)
  lb := fun a ha => (of_mem_locs ha).1
  lk := S.lk
  bs := S.bs
  dom := fun _ h => h
  tb := S.tb

/-- back to the old entry -/
theorem Core.unreb {σ' : L2.St} {env' : List Cell} (S : Core B K Tz F H n σ env) (T : Core (DL.reb B F H σ env) K Tz F' H' n' σ' env') : Core B K Tz F' H' n' σ' env' := by
  have back : ∀ x ∈ locs H B.bor σ env, B.H0 x = none ∨ x ∈ B.loc := fun x hx => by
    obtain ⟨nb, j, b, c, a, ej, aj, hf⟩ := of_mem_locs hx
    rcases (S.ownAt ej aj).2.2.2 x hf with y | y
    · exact absurd y.2 nb
    · exact y
  exact {
    same := T.same
    len := T.len
    at_ := fun i c e => by
      obtain ⟨o, e1, h⟩ := T.at_ i c e
      refine ⟨o, e1, ?_⟩
      cases c with
      | un => trivial
      | d x => exact h
      | o b c =>
        obtain ⟨a, e2, h1, h2, h3, h4⟩ := h
        refine ⟨a, e2, h1, h2, h3, fun x hx => ?_⟩
        rcases h4 x hx with y | y | y
        · exact .inl y
        · exact .inr (.inl (S.fresh0 y))
        · exact .inr (back x y)
    sep := T.sep
    fr := fun a o e hb hl => by
      have g := S.fr a o e hb hl
      obtain ⟨o1, e1⟩ := Option.isSome_iff_exists.mp g.isSome
      rw [e1] at g
      refine g.trans (T.fr a o1 e1 hb fun q => ?_)
      rcases back a q with z | z
      · rw [z] at e; cases e
      · exact hl z
    ff := fun a e hb hl => by
      have nl : a ∉ locs H B.bor σ env := fun q => by
        rcases back a q with z | z
        · rw [z] at e; cases e
        · exact hl z
      rcases T.ff a (S.dom a e) hb nl with q | ⟨o', q, lx⟩
      · exact (S.ff a e hb hl).imp (fun r => q.trans r) id
      · obtain ⟨o, eo⟩ := Option.isSome_iff_exists.mp e
        have z : H a = some o' := q
        have g := S.fr a o eo hb hl
        rw [z] at g
        exact .inr ⟨o, eo, g.lax lx⟩
    bd := S.bd
    lb := S.lb
    lk := T.lk
    bs := T.bs
    dom := fun a e => T.dom a (S.dom a e)
    tb := T.tb }
theorem SOk.reb (S : SOk B K Z F H n σ env) : SOk (DL.reb B F H σ env) K Z F H n σ env :=
  ⟨S.toCore.reb, S.lnk.1, fun F' H' n' σ' e C d fs c x h1 h2 h3 h4 h5 => S.lnk.2 F' H' n' σ' e C d fs (S.toCore.unreb c) x h1 h2 h3 (S.fresh0 h4) h5⟩
theorem SOk.unreb {Z' : ZX} {σ' : L2.St} {env' : List Cell} (S : SOk B K Z F H n σ env) (T : SOk (DL.reb B F H σ env) K Z' F' H' n' σ' env') (hT : Z'.T = Z.T) (x : Ext F F') (hn : n ≤ n') : SOk B K Z F' H' n' σ' env' :=
  ⟨S.toCore.unreb (hT ▸ T.toCore), S.lnk.mono x hn⟩
theorem SOk.newAt (S : SOk B K Z F H n σ env) {x : Addr} (h : NewAt (DL.reb B F H σ env) x) : NewAt B x := by
  rcases h with h | h
  · exact .inl (S.fresh0 h)
  · obtain ⟨nb, j, b, c, a, ej, aj, hf⟩ := of_mem_locs h
    exact ((S.toCore.ownAt ej aj).2.2.2 x hf).elim (fun y => absurd y.2 nb) id
/-- addresses that no slot knows stand behind what the slots do -/
theorem SOk.aside {Z' : ZX} {σ' : L2.St} {env' : List Cell} (S : SOk B K Z F H n σ env) (T : SOk (DL.reb B F H σ env) K Z' F' H' n' σ' env') {x : Addr} {o : HO} (eo : H x = some o) (po : plain o = true) (h0 : NewAt B x) (hF : F x = none) (hs : ∀ (i : Nat) (b' : Bool) (c' : OC) (a' : Addr), env[i]? = some (.o b' c') → σ[i]? = some (some (.ref a')) → x ∉ fp H a' c') :
    (H' x = H x ∧ F' x = none) ∧ ∀ (i : Nat) (b' : Bool) (c' : OC) (a' : Addr), env'[i]? = some (.o b' c') → σ'[i]? = some (some (.ref a')) → x ∉ fp H' a' c' := by
  have nb : x ∉ B.bor := fun q => by
    rcases h0 with h0 | h0
    · have := S.bd x q
      rw [h0] at this
      cases this
    · exact S.lb x h0 q
  have nl : x ∉ locs H B.bor σ env := fun q => by
    obtain ⟨_, j, b, c, a, ej, aj, hf⟩ := of_mem_locs q
    exact hs j b c a ej aj hf
  refine ⟨⟨((T.fr x o eo nb nl).eq (plain_tbl po)).trans eo.symm, (T.ff x (by show (H x).isSome = true; rw [eo]; rfl) nb nl).elim (fun q => q.trans hF) fun ⟨o', q, lx⟩ => ?_⟩, fun i b' c' a' ei si hx => ?_⟩
  · have q' : H x = some o' := q
    rw [eo] at q'
    cases q'
    rw [plain_lax po] at lx
    cases lx
  · rcases (T.toCore.ownAt ei si).2.2.2 x hx with y | y | y
    · exact nb y.2
    · rw [show (DL.reb B F H σ env).H0 x = H x from rfl, eo] at y
      cases y
    · exact nl y
/-- a result that waits while another is evaluated -/
theorem Res.wait {env' : List Cell} {v : V} {c : Cell} (S : SOk B K Z F H n σ env) (r : Res B K F H n σ env v c) (T : SOk (DL.reb B F H σ env) K Z F' H' n' σ env') (x : Ext F F') (hn : n ≤ n') :
    Res B K F' H' n' σ env' v c := by
  obtain ⟨r1, r2, r3⟩ := r
  cases c with
  | un => exact ⟨trivial, r2, fun b oc a (z : Cell.un = Cell.o b oc) => nomatch z⟩
  | d d =>
    obtain ⟨v', e, h⟩ := r1
    exact ⟨⟨v', e, h.mono x⟩, r2, fun b oc a (z : Cell.d d = Cell.o b oc) => nomatch z⟩
  | o b c =>
    cases b with
    | true => cases r2
    | false =>
      obtain ⟨a, e, h1, h2, h3, h4⟩ := r1
      cases e
      have key : ∀ y ∈ fp H a c, (H' y = H y ∧ F' y = none) ∧ ∀ (i : Nat) (b' : Bool) (c' : OC) (a' : Addr), env'[i]? = some (.o b' c') → σ[i]? = some (some (.ref a')) → y ∉ fp H' a' c' := fun y hy => by
        obtain ⟨o, eo, po⟩ := h2.pl y hy
        obtain ⟨q1, q2⟩ := r3 _ _ _ rfl rfl y hy
        exact S.aside T eo po q2 (h1 y hy) q1
      have ef := fp_congr (H' := H') (c := c) fun y hy => (key y hy).1.1
      exact Res.mk (fun y hy => (key y (ef ▸ hy)).1.2) (OCOk.mono x hn (fun y hy => (key y hy).1.1) h2) fun y hy => ⟨(key y (ef ▸ hy)).2, (r3 _ _ _ rfl rfl y (ef ▸ hy)).2⟩
/-- a tuple that stands may be frozen at any time -/
theorem SOk.adopt (S : SOk B K Z F H n σ env) {p : Addr} {vs : List V} (hp : H p = some (.tup vs)) : ∃ F', SOk B K Z F' H n σ env ∧ Same F F' ∧ F' p = some (.tup vs) := by
  cases q : F p with
  | some o =>
    have := S.same _ _ q
    rw [hp] at this
    cases this
    exact ⟨F, S, fun _ _ q => q, q⟩
  | none =>
    have s1 : Same F (upd F p (.tup vs)) := same_upd q
    have st := S.toCore.step (F' := upd F p (.tup vs)) (H' := H) (Ext.of s1) (Nat.le_refl _) fun i b c a ei si x hx => ⟨rfl, by
      obtain ⟨g1, g2, _⟩ := S.toCore.ownAt ei si
      rw [upd_ne (by
        rintro rfl
        obtain ⟨o, eo, po⟩ := g2.pl x hx
        rw [hp] at eo
        cases eo
        cases po)]
      exact g1 x hx⟩
    refine ⟨upd F p (.tup vs), ⟨⟨fun b u e => ?_, S.len, st.1, st.2, S.fr, fun b hb hn hl => ?_, S.bd, S.lb, fun z hz => ?_, S.bs, S.dom, S.tb⟩, S.lnk.mono (Ext.of s1) (Nat.le_refl _)⟩, s1, upd_same⟩
    · by_cases hb : b = p
      · subst hb; rw [upd_same] at e; cases e; exact hp
      · rw [upd_ne hb] at e; exact S.same _ _ e
    · by_cases e : b = p
      · subst e
        obtain ⟨o, eo⟩ := Option.isSome_iff_exists.mp hb
        have z := S.fr b o eo hn hl
        rw [hp] at z
        rw [z.tup] at eo
        exact .inr ⟨_, eo, rfl⟩
      · unfold TF
        rw [upd_ne e]
        exact S.ff b hb hn hl
    · have r := S.lk z hz
      rw [upd_ne (by intro y; rw [y, q] at r; cases r)]
      exact r
theorem fp_upd (S : Core B K Tz F H n σ env) {p : Addr} {o : HO} (hp : H p = none) {i : Nat} {b : Bool} {c : OC} {a' : Addr} (e : env[i]? = some (.o b c)) (ea : σ[i]? = some (some (.ref a'))) : fp (upd H p o) a' c = fp H a' c :=
  fp_congr fun y hy => upd_ne (by rintro rfl; exact S.notin hp i b c a' e ea hy)
/-- a new object that no slot knows: what it is owned as -/
theorem SOk.freshOwn (S : SOk B K Z F H n σ env) {oc : OC} {o : HO} {p : Addr} (hp : H p = none) (h : OCOk K F (upd H p o) n p oc) (h1 : oc.one = true := by rfl) :
    SOk B K Z F (upd H p o) n σ env ∧ Res B K F (upd H p o) n σ env (.ref p) (.o false oc) := by
  refine ⟨S.allocO hp, Res.mk (fun x hx => ?_) h fun x hx => ⟨fun i b' c' a' e ea => ?_, ?_⟩⟩
  · rw [fp_one h1] at hx
    cases List.mem_singleton.mp hx
    exact S.freshF hp
  · rw [fp_one h1] at hx
    cases List.mem_singleton.mp hx
    rw [fp_upd S.toCore hp e ea]
    exact S.notin hp i b' c' a' e ea
  · rw [fp_one h1] at hx
    cases List.mem_singleton.mp hx
    exact .inl (S.fresh0 hp)
/-- two results have nothing in common -/
def Apart (H : Hp) (v : V) (c : Cell) (w : V) (c' : Cell) : Prop := ∀ b oc a b' oc' a', c = .o b oc → v = .ref a → c' = .o b' oc' → w = .ref a' → ∀ x ∈ fp H a oc, x ∉ fp H a' oc'
theorem Res.unreb {F1 H1 : Hp} {e1 : List Cell} {v : V} {c : Cell} (S1 : SOk B K Z F1 H1 n σ e1) (r : Res (DL.reb B F1 H1 σ e1) K F H n' σ env v c) : Res B K F H n' σ env v c := by
  obtain ⟨q1, q2, q3⟩ := r
  have q4 : ∀ b oc a, c = .o b oc → v = .ref a → ∀ x ∈ fp H a oc, (∀ (i : Nat) (b' : Bool) (c' : OC) (a' : Addr), env[i]? = some (.o b' c') → σ[i]? = some (some (.ref a')) → x ∉ fp H a' c') ∧ NewAt B x := fun b oc a e1 e2 x hx => ⟨(q3 b oc a e1 e2 x hx).1, S1.newAt (q3 b oc a e1 e2 x hx).2⟩
  refine ⟨?_, q2, q4⟩
  cases c with
  | un => trivial
  | d d => exact q1
  | o b c =>
    obtain ⟨a, e, z1, z2, z3, z4⟩ := q1
    cases e
    exact ⟨a, rfl, z1, z2, z3, fun x hx => .inr (q4 _ _ _ rfl rfl x hx).2⟩
/-- a result that stood when another was evaluated -/
theorem Res.apart {F1 H1 : Hp} {e1 : List Cell} {v w : V} {c c' : Cell} (r : Res B K F1 H1 n σ e1 v c) (hk : ∀ b oc a, c = .o b oc → v = .ref a → ∀ x ∈ fp H a oc, (H1 x).isSome = true ∧ x ∈ fp H1 a oc) (r2 : Res (DL.reb B F1 H1 σ e1) K F H n' σ env w c') : Apart H v c w c' := fun b oc a b' oc' a' e1 e2 e3 e4 x hx hy => by
  obtain ⟨h1, h4⟩ := hk b oc a e1 e2 x hx
  rcases (r2.2.2 b' oc' a' e3 e4 x hy).2 with h2 | h2
  · have h3 : H1 x = none := h2
    rw [h3] at h1
    cases h1
  · obtain ⟨_, j, b, c, a, ej, aj, hf⟩ := of_mem_locs h2
    exact (r.2.2 _ _ _ e1 e2 x h4).1 j b c a ej aj hf
theorem Res.kept {F1 H1 : Hp} {env' : List Cell} {v : V} {c : Cell} (S : SOk B K Z F1 H1 n σ env) (r : Res B K F1 H1 n σ env v c) (T : SOk (DL.reb B F1 H1 σ env) K Z F' H' n' σ env') : ∀ b oc a, c = .o b oc → v = .ref a → ∀ x ∈ fp H' a oc, (H1 x).isSome = true ∧ x ∈ fp H1 a oc := fun b oc a e1 e2 x hx => by
  subst e1
  subst e2
  obtain ⟨⟨a2, e, h1, h2, _⟩, _, r3⟩ := r
  cases e
  have key : ∀ y ∈ fp H1 a oc, H' y = H1 y := fun y hy => by
    obtain ⟨o, eo, po⟩ := h2.pl y hy
    obtain ⟨q1, q2⟩ := r3 _ _ _ rfl rfl y hy
    exact (S.aside T eo po q2 (h1 y hy) q1).1.1
  rw [fp_congr key] at hx
  obtain ⟨o, eo, _⟩ := h2.pl x hx
  exact ⟨by rw [eo]; rfl, hx⟩
theorem Res.stored {v w : V} {c c' : Cell} (r : Res B K F H n σ env w c') {i : Nat} (ne : Apart H w c' v c) : Res B K F H n (σ.set i (some v)) (env.set i c) w c' := by
  refine ⟨r.1, r.2.1, fun b oc a e1 e2 x hx => ⟨fun j b' cj a' ej sj => ?_, (r.2.2 b oc a e1 e2 x hx).2⟩⟩
  rcases getElem?_set_cases ej with ⟨rfl, z, hl⟩ | ⟨nej, ej'⟩
  · rcases getElem?_set_cases sj with ⟨_, q, _⟩ | ⟨q, _⟩
    · cases q
      exact ne b oc a _ _ _ e1 e2 z.symm rfl x hx
    · exact absurd rfl q
  · rw [List.getElem?_set_ne nej] at sj
    exact (r.2.2 b oc a e1 e2 x hx).1 j b' cj a' ej' sj
theorem Apart.symm {v w : V} {c c' : Cell} (h : Apart H v c w c') : Apart H w c' v c := fun b oc a b' oc' a' e1 e2 e3 e4 x hx hy => h b' oc' a' b oc a e3 e4 e1 e2 x hy hx
theorem OCOk.nodup {c : OC} (h : OCOk K F H n a c) : (fp H a c).Nodup := by
  cases c <;> first | exact List.nodup_cons.mpr ⟨by simp, List.nodup_nil⟩ | exact h.2.2
end
end DL
set_option maxRecDepth 100000
set_option maxHeartbeats 4000000
namespace DL
open PySem PySem.Spec PyProof.Rows L2

abbrev DE := List Cell → (Cell → List Cell → Prop) → Prop
abbrev DD := List Cell → (DV → List Cell → Prop) → Prop
abbrev DT := List Cell → (Bool → List Cell → Prop) → Prop
abbrev DA := List Cell → (List DV → List Cell → Prop) → Prop
def MonoC {α : Type} (f : List Cell → (α → List Cell → Prop) → Prop) : Prop := ∀ (env : List Cell) (Q Q' : α → List Cell → Prop), (∀ r e, Q r e → Q' r e) → f env Q → f env Q'

section
variable (K : PySem.W.Frag) (Z : ZX) (c : Nat)
def tDc (f : DE) : TE := fun σ H Q => ∃ B F n env, n + c ≤ Z.M ∧ SOk B K Z F H n σ env ∧ f env fun r env' => ∀ v H' F', SOk B K Z F' H' (n + c) σ env' → Ext F F' → Res B K F' H' (n + c) σ env' v r → Q v H'
def tDd (f : DD) : TE := fun σ H Q => ∃ B F n env, n + c ≤ Z.M ∧ SOk B K Z F H n σ env ∧ f env fun r env' => ∀ v H' F', SOk B K Z F' H' (n + c) σ env' → Ext F F' → Hold K F' v r → Q v H'
def tDt (f : DT) : TT := fun σ H Q => ∃ B F n env, n + c ≤ Z.M ∧ SOk B K Z F H n σ env ∧ f env fun r env' => ∀ H' F', SOk B K Z F' H' (n + c) σ env' → Ext F F' → Q r H'
def tDa (f : DA) : TA := fun σ H Q => ∃ B F n env, n + c ≤ Z.M ∧ SOk B K Z F H n σ env ∧ f env fun r env' => ∀ vs H' F', SOk B K Z F' H' (n + c) σ env' → Ext F F' → HoldAll K F' vs r → Q vs H'
end
structure PEc (X : Cx) (Z : ZX) (e : Expr) (c : Nat) (f : DE) : Prop where
  mono : MonoC f
  run : PE X e (tDc X.K Z c f)
structure PEd (X : Cx) (Z : ZX) (e : Expr) (c : Nat) (f : DD) : Prop where
  mono : MonoC f
  run : PE X e (tDd X.K Z c f)
structure PTd (X : Cx) (Z : ZX) (e : Expr) (c : Nat) (f : DT) : Prop where
  mono : MonoC f
  run : PT X e (tDt X.K Z c f)
structure PWd (X : Cx) (Z : ZX) (e : Expr) (c : Nat) (f : DT) : Prop where
  mono : MonoC f
  run : PW X e (tDt X.K Z c f)
structure PAd (X : Cx) (Z : ZX) (es : List Expr) (c : Nat) (f : DA) : Prop where
  mono : MonoC f
  run : PA X es (tDa X.K Z c f)

theorem PE_imp {X : Cx} {e : Expr} {t t' : TE} (h : PE X e t) (i : ∀ σ H Q, t' σ H Q → t σ H Q) : PE X e t' := ⟨fun pins s σ H Q I q => h.run pins s σ H Q I (i _ _ _ q)⟩
theorem PT_imp {X : Cx} {e : Expr} {t t' : TT} (h : PT X e t) (i : ∀ σ H Q, t' σ H Q → t σ H Q) : PT X e t' := ⟨fun pins s σ H Q I q => h.run pins s σ H Q I (i _ _ _ q)⟩
theorem PW_imp {X : Cx} {e : Expr} {t t' : TT} (h : PW X e t) (i : ∀ σ H Q, t' σ H Q → t σ H Q) : PW X e t' := ⟨fun w pins s σ H Q I q => h.run w pins s σ H Q I (i _ _ _ q)⟩
theorem PA_imp {X : Cx} {es : List Expr} {t t' : TA} (h : PA X es t) (i : ∀ σ H Q, t' σ H Q → t σ H Q) : PA X es t' := ⟨fun p pins s σ H Q I q => h.run p pins s σ H Q I (i _ _ _ q)⟩

section
variable {K : PySem.W.Frag} {Z : ZX} {c : Nat} {B : Base} {F H : Hp} {n : Nat} {σ : L2.St} {env : List Cell}
theorem bindD {f : DD} {G : DV → List Cell → Prop} {R : VK} (m : MonoC f) (hn : n + c ≤ Z.M) (S : SOk B K Z F H n σ env) (h : f env G)
    (k : ∀ d env' v H' F', G d env' → SOk B K Z F' H' (n + c) σ env' → Ext F F' → Hold K F' v d → R v H') : tDd K Z c f σ H R :=
  ⟨B, F, n, env, hn, S, m _ _ _ (fun d e g v H' F' S' x hh => k d e v H' F' g S' x hh) h⟩
theorem bindC {f : DE} {G : Cell → List Cell → Prop} {R : VK} (m : MonoC f) (hn : n + c ≤ Z.M) (S : SOk B K Z F H n σ env) (h : f env G)
    (k : ∀ d env' v H' F', G d env' → SOk B K Z F' H' (n + c) σ env' → Ext F F' → Res B K F' H' (n + c) σ env' v d → R v H') : tDc K Z c f σ H R :=
  ⟨B, F, n, env, hn, S, m _ _ _ (fun d e g v H' F' S' x hh => k d e v H' F' g S' x hh) h⟩
theorem bindT {f : DT} {G : Bool → List Cell → Prop} {R : Bool → Hp → Prop} (m : MonoC f) (hn : n + c ≤ Z.M) (S : SOk B K Z F H n σ env) (h : f env G)
    (k : ∀ d env' H' F', G d env' → SOk B K Z F' H' (n + c) σ env' → Ext F F' → R d H') : tDt K Z c f σ H R :=
  ⟨B, F, n, env, hn, S, m _ _ _ (fun d e g H' F' S' x => k d e H' F' g S' x) h⟩
theorem bindA {f : DA} {G : List DV → List Cell → Prop} {R : List V → Hp → Prop} (m : MonoC f) (hn : n + c ≤ Z.M) (S : SOk B K Z F H n σ env) (h : f env G)
    (k : ∀ d env' vs H' F', G d env' → SOk B K Z F' H' (n + c) σ env' → Ext F F' → HoldAll K F' vs d → R vs H') : tDa K Z c f σ H R :=
  ⟨B, F, n, env, hn, S, m _ _ _ (fun d e g vs H' F' S' x hh => k d e vs H' F' g S' x hh) h⟩
end

/-! ### from one judgement to another -/
def dCel (f : DD) : DE := fun env Q => f env fun d e => Q (.d d) e
def dDat (f : DE) : DD := fun env Q => f env fun r e => match r.frz with
  | some d => Q d e
  | none => False
section
variable {X : Cx} {Z : ZX} {e : Expr} {c : Nat}
theorem PEd.cel {f : DD} (h : PEd X Z e c f) : PEc X Z e c (dCel f) :=
  ⟨fun env Q Q' q => h.mono _ _ _ fun d e => q _ _, PE_imp h.run fun σ H Q ⟨B, F, n, env, hn, S, g⟩ => bindD h.mono hn S g fun d env' v H' F' q S' x hh => q v H' F' S' x (Res.dat hh)⟩
theorem PEc.dat {f : DE} (h : PEc X Z e c f) : PEd X Z e c (dDat f) := by
  refine ⟨fun env Q Q' q => h.mono _ _ _ fun r e g => ?_, PE_imp h.run fun σ H Q ⟨B, F, n, env, hn, S, g⟩ => bindC h.mono hn S g fun r env' v H' F' q S' x hh => ?_⟩
  · cases z : r.frz with
    | none => rw [z] at g; exact g.elim
    | some d => rw [z] at g; exact q _ _ g
  · cases z : r.frz with
    | none => rw [z] at q; exact q.elim
    | some d =>
      rw [z] at q
      obtain ⟨F2, S2, x2, h2⟩ := S'.frzRes hh z
      exact q v H' F2 S2 (x.trans (Ext.of x2)) h2
end

/-! ### names, constants -/
def dVar (i : Nat) : DD := fun env Q => match env[i]? with
  | some (.d x) => Q x env
  | some (.o false c) => match c.frz with
    | some d => Q d (env.set i (.d d))
    | none => False
  | _ => False
def dC (x : DV) : DD := fun env Q => Q x env
section
variable {X : Cx} {Z : ZX}
theorem mono_var (i : Nat) : MonoC (dVar i) := by
  intro env Q Q' q g
  unfold dVar at g ⊢
  split
  · rename_i x e
    rw [e] at g
    exact q _ _ g
  · rename_i c e
    rw [e] at g
    simp only at g
    split
    · rename_i d e2
      rw [e2] at g
      exact q _ _ g
    · rename_i e2
      rw [e2] at g
      exact g
  · rename_i h1 h2
    split at g
    · rename_i x e
      exact absurd e (h1 x)
    · rename_i c e
      exact absurd e (h2 c)
    · exact g
theorem pdVar (i : Nat) {x : Str} {pos : Pos} (hN : X.N[i]? = some x := by rfl) (hv : Vis X.env.scope x := by first | exact Or.inl rfl | exact Or.inr (Or.inl rfl) | exact Or.inr (Or.inr rfl)) (hd : (x == ("__debug__" : Str)) = false := by decide)
    (hcd : (x == ("__classdict__" : Str)) = false := by decide) : PEd X Z (.Name x pos) 0 (dVar i) := by
  refine ⟨mono_var i, PE_imp (pe_var hN hv hd hcd) fun σ H Q ⟨B, F, n, env, hn, S, g⟩ => ?_⟩
  unfold dVar at g
  split at g
  · rename_i x e
    obtain ⟨v, e1, h⟩ := S.dat e
    exact ⟨v, e1, g v H F S (Ext.refl _) h⟩
  · rename_i c e
    simp only at g
    split at g
    · rename_i d e2
      obtain ⟨a, F', e1, S', x', h⟩ := S.freeze e e2
      exact ⟨_, e1, g _ H F' S' (Ext.of x') h⟩
    · exact g.elim
  · exact g.elim
theorem pdInt {i j pos} : PEd X Z (.Constant (.int i) j pos) 0 (dC (.int i)) := ⟨fun _ _ _ q g => q _ _ g, PE_imp pe_int fun σ H Q ⟨B, F, n, env, hn, S, g⟩ => g _ H F S (Ext.refl _) (.int i)⟩
theorem pdBl {b j pos} : PEd X Z (.Constant (.bool b) j pos) 0 (dC (.bl b)) := ⟨fun _ _ _ q g => q _ _ g, PE_imp pe_bl fun σ H Q ⟨B, F, n, env, hn, S, g⟩ => g _ H F S (Ext.refl _) (.bl b)⟩
theorem pdNon {j pos} : PEd X Z (.Constant .none j pos) 0 (dC .non) := ⟨fun _ _ _ q g => q _ _ g, PE_imp pe_non fun σ H Q ⟨B, F, n, env, hn, S, g⟩ => g _ H F S (Ext.refl _) .non⟩
theorem pdStr {x j pos} : PEd X Z (.Constant (.str x) j pos) 0 (dC (.str x)) := ⟨fun _ _ _ q g => q _ _ g, PE_imp pe_str fun σ H Q ⟨B, F, n, env, hn, S, g⟩ => g _ H F S (Ext.refl _) (.str x)⟩
/-- a module's constant, class, def as a value -/
theorem pdGlob {x : Str} {v : V} {u : Value} {d : DV} {pos : Pos} (hg : Gl X x) (hm : X.mg x = some u) (r : RelV v u) (hh : ∀ F, Hold X.K F v d) (hd : (x == ("__debug__" : Str)) = false := by decide) : PEd X Z (.Name x pos) 0 (dC d) :=
  ⟨fun _ _ _ q g => q _ _ g, PE_imp (pe_glob hg hm r hd) fun σ H Q ⟨B, F, n, env, hn, S, g⟩ => g _ H F S (Ext.refl _) (hh F)⟩
end

/-! ### operators by data -/
/-- the operator's rule by data: no slot is touched -/
def Op2 (K : PySem.W.Frag) (r : R2) (g : DV → DV → (Cell → Prop) → Prop) : Prop :=
  (∀ x y Q Q', (∀ c, Q c → Q' c) → g x y Q → g x y Q') ∧
  ∀ B Z F H n σ env v u x y Q, SOk B K Z F H n σ env → Hold K F v x → Hold K F u y →
    g x y (fun c => ∀ w H' F', SOk B K Z F' H' n σ env → Ext F F' → Res B K F' H' n σ env w c → Q w H') → r v u H Q
def Op2d (K : PySem.W.Frag) (r : R2) (g : DV → DV → (DV → Prop) → Prop) : Prop :=
  (∀ x y Q Q', (∀ c, Q c → Q' c) → g x y Q → g x y Q') ∧
  ∀ B Z F H n σ env v u x y Q, SOk B K Z F H n σ env → Hold K F v x → Hold K F u y →
    g x y (fun c => ∀ w H' F', SOk B K Z F' H' n σ env → Ext F F' → Hold K F' w c → Q w H') → r v u H Q
def dOp2 (g : DV → DV → (Cell → Prop) → Prop) (fa fb : DD) : DE := fun env Q => fa env fun x e1 => fb e1 fun y e2 => g x y fun c => Q c e2
def dOp2d (g : DV → DV → (DV → Prop) → Prop) (fa fb : DD) : DD := fun env Q => fa env fun x e1 => fb e1 fun y e2 => g x y fun c => Q c e2
section
variable {X : Cx} {Z : ZX} {e a b : Expr} {ca cb : Nat} {fa fb : DD}
theorem PEc.op2 {r : R2} {g : DV → DV → (Cell → Prop) → Prop} (hr : Op2 X.K r g) (ha : PEd X Z a ca fa) (hb : PEd X Z b cb fb) (pe : PE X e (tOp r (tDd X.K Z ca fa) (tDd X.K Z cb fb))) : PEc X Z e (ca + cb) (dOp2 g fa fb) := by
  refine ⟨fun env Q Q' q h => ha.mono _ _ _ (fun x e1 h1 => hb.mono _ _ _ (fun y e2 h2 => hr.1 _ _ _ _ (fun c => q _ _) h2) h1) h, PE_imp pe fun σ H Q ⟨B, F, n, env, hn, S, h⟩ => ?_⟩
  refine bindD ha.mono (by omega) S h fun x e1 v H1 F1 h1 S1 x1 hv => ?_
  refine bindD hb.mono (by omega) S1 h1 fun y e2 u H2 F2 h2 S2 x2 hu => ?_
  refine hr.2 B Z F2 H2 (n + ca + cb) σ e2 v u x y Q S2 (hv.mono x2) hu (hr.1 _ _ _ _ (fun c q w H' F' S' x' r' => ?_) h2)
  rw [Nat.add_assoc] at S' r'
  exact q w H' F' S' ((x1.trans x2).trans x') r'
theorem PEd.op2 {r : R2} {g : DV → DV → (DV → Prop) → Prop} (hr : Op2d X.K r g) (ha : PEd X Z a ca fa) (hb : PEd X Z b cb fb) (pe : PE X e (tOp r (tDd X.K Z ca fa) (tDd X.K Z cb fb))) : PEd X Z e (ca + cb) (dOp2d g fa fb) := by
  refine ⟨fun env Q Q' q h => ha.mono _ _ _ (fun x e1 h1 => hb.mono _ _ _ (fun y e2 h2 => hr.1 _ _ _ _ (fun c => q _ _) h2) h1) h, PE_imp pe fun σ H Q ⟨B, F, n, env, hn, S, h⟩ => ?_⟩
  refine bindD ha.mono (by omega) S h fun x e1 v H1 F1 h1 S1 x1 hv => ?_
  refine bindD hb.mono (by omega) S1 h1 fun y e2 u H2 F2 h2 S2 x2 hu => ?_
  refine hr.2 B Z F2 H2 (n + ca + cb) σ e2 v u x y Q S2 (hv.mono x2) hu (hr.1 _ _ _ _ (fun c q w H' F' S' x' r' => ?_) h2)
  rw [Nat.add_assoc] at S'
  exact q w H' F' S' ((x1.trans x2).trans x') r'
end

/-! ### ints -/
def gI2 (C : Int → Int → Prop) (h : Int → Int → DV) : DV → DV → (DV → Prop) → Prop := fun x y Q => match x, y with
  | .int i, .int j => C i j ∧ Q (h i j)
  | _, _ => False
def gI0 (h : Int → Int → DV) : DV → DV → (DV → Prop) → Prop := fun x y Q => match x, y with
  | .int i, .int j => Q (h i j)
  | _, _ => False
section
variable {K : PySem.W.Frag}
theorem op2I {C : Int → Int → Prop} {h : Int → Int → V} {h' : Int → Int → DV} (hh : ∀ i j F, Hold K F (h i j) (h' i j)) : Op2d K (rI C h) (gI2 C h') := by
  refine ⟨fun x y Q Q' q g => ?_, fun B Z F H n σ env v u x y Q S hv hu g => ?_⟩
  · cases x <;> cases y <;> first | exact ⟨g.1, q _ g.2⟩ | exact g
  · cases hv <;> first | (cases hu <;> first | exact ⟨_, _, rfl, rfl, g.1, g.2 _ H F S (Ext.refl _) (hh _ _ _)⟩ | exact g.elim) | exact (by cases y <;> exact g.elim)
theorem op2I0 {h : Int → Int → V} {h' : Int → Int → DV} (hh : ∀ i j F, Hold K F (h i j) (h' i j)) : Op2d K (rI0 h) (gI0 h') := by
  refine ⟨fun x y Q Q' q g => ?_, fun B Z F H n σ env v u x y Q S hv hu g => ?_⟩
  · cases x <;> cases y <;> first | exact q _ g | exact g
  · cases hv <;> first | (cases hu <;> first | exact ⟨_, _, rfl, rfl, g _ H F S (Ext.refl _) (hh _ _ _)⟩ | exact g.elim) | exact (by cases y <;> exact g.elim)
end
end DL
set_option maxRecDepth 100000
set_option maxHeartbeats 4000000
namespace DL
open PySem PySem.Spec PyProof.Rows L2

/-! ### data that == compares -/
mutual
def DV.py : DV → PyData
  | .non => .none
  | .bl b => .bool b
  | .int i => .int i
  | .str x => .str x
  | .tup xs => .tuple (pyAll xs)
  | .ktup xs => .tuple (pyAll xs)
  | .lst xs => .list (pyAll xs)
  | .klst _ => .none
  | .ref _ => .none
  | .ty _ => .none
  | .dk _ => .none
  | .dt _ => .none
  | .ins _ _ => .none
def pyAll : List DV → List PyData
  | [] => []
  | x :: xs => x.py :: pyAll xs
end
def DV.ok : Nat → DV → Bool
  | _, .non => true
  | _, .bl _ => true
  | _, .int _ => true
  | _, .str x => PyData.strOk x
  | k + 1, .tup xs => xs.all (DV.ok k)
  | k + 1, .ktup xs => xs.all (DV.ok k)
  | k + 1, .lst xs => xs.all (DV.ok k)
  | _, _ => false
section
variable {K : PySem.W.Frag} {F : Hp}
mutual
theorem dp_of : ∀ {v : V} {d : DV}, Hold K F v d → ∀ k, d.ok k = true → Dp K F v d.py
  | _, _, .non, _, _ => by rw [DV.py]; exact .non
  | _, _, .bl b, _, _ => by rw [DV.py]; exact .bl b
  | _, _, .int i, _, _ => by rw [DV.py]; exact .int i
  | _, _, .str x, _, _ => by rw [DV.py]; exact .str x
  | _, _, .ref a, k, h => by cases k <;> cases h
  | _, _, .ty n, k, h => by cases k <;> cases h
  | _, _, .tup (xs := xs) h r, k, e => by
    rw [DV.py]
    cases k with
    | zero => cases e
    | succ k => exact .tup (SqT.of h) (dpAll_of r k (List.all_eq_true.mp (show xs.all (DV.ok k) = true from e)))
  | _, _, .ktup (xs := xs) h1 h2 h3 h4 h5 r, k, e => by
    rw [DV.py]
    cases k with
    | zero => cases e
    | succ k => exact .tup (.inr ⟨_, _, _, h1, h2, h3, h4, h5⟩) (dpAll_of r k (List.all_eq_true.mp (show xs.all (DV.ok k) = true from e)))
  | _, _, .lst (xs := xs) h r, k, e => by
    rw [DV.py]
    cases k with
    | zero => cases e
    | succ k => exact .lst (.inl (.inl h)) (dpAll_of r k (List.all_eq_true.mp (show xs.all (DV.ok k) = true from e)))
  | _, _, .klst _ _, k, h => by cases k <;> cases h
  | _, _, .dk _ _ _, k, h => by cases k <;> cases h
  | _, _, .dt _ _ _, k, h => by cases k <;> cases h
  | _, _, .ins _ _ _, k, h => by cases k <;> cases h
theorem dpAll_of : ∀ {vs : List V} {ds : List DV}, HoldAll K F vs ds → ∀ k, (∀ d ∈ ds, d.ok k = true) → DpAll K F vs (pyAll ds)
  | _, _, .nil, _, _ => by rw [pyAll]; exact .nil
  | _, _, .cons h t, k, e => by
    rw [pyAll]
    exact .cons (dp_of h k (e _ List.mem_cons_self)) (dpAll_of t k fun d hd => e d (List.mem_cons_of_mem _ hd))
end
mutual
theorem Dp_mono {F' : Hp} (s : Same F F') : ∀ {v : V} {d : PyData}, Dp K F v d → Dp K F' v d
  | _, _, .non => .non
  | _, _, .bl b => .bl b
  | _, _, .int i => .int i
  | _, _, .str x => .str x
  | _, _, .lst h r => .lst (sqL_mono (Ext.of s) h) (DpAll_mono s r)
  | _, _, .tup h r => .tup (sqT_mono (Ext.of s) h) (DpAll_mono s r)
theorem DpAll_mono {F' : Hp} (s : Same F F') : ∀ {vs : List V} {ds : List PyData}, DpAll K F vs ds → DpAll K F' vs ds
  | _, _, .nil => .nil
  | _, _, .cons h t => .cons (Dp_mono s h) (DpAll_mono s t)
end
end
mutual
theorem py_depth : ∀ (d : DV) (k : Nat), d.ok k = true → d.py.canLay0 = true ∧ d.py.depth ≤ k
  | .non, k, _ => by rw [DV.py]; exact ⟨rfl, by simp [PyData.depth]⟩
  | .bl _, k, _ => by rw [DV.py]; exact ⟨rfl, by simp [PyData.depth]⟩
  | .int _, k, _ => by rw [DV.py]; exact ⟨rfl, by simp [PyData.depth]⟩
  | .str x, k, h => by
    rw [DV.py]
    have h : PyData.strOk x = true := by cases k <;> exact h
    exact ⟨by simpa [PyData.canLay0] using h, by simp [PyData.depth]⟩
  | .tup xs, k, h => by
    rw [DV.py]
    cases k with
    | zero => cases h
    | succ k =>
      obtain ⟨h1, h2⟩ := pyAll_depth xs k (List.all_eq_true.mp (show xs.all (DV.ok k) = true from h))
      exact ⟨by simpa [PyData.canLay0] using h1, by simp only [PyData.depth]; omega⟩
  | .ktup xs, k, h => by
    rw [DV.py]
    cases k with
    | zero => cases h
    | succ k =>
      obtain ⟨h1, h2⟩ := pyAll_depth xs k (List.all_eq_true.mp (show xs.all (DV.ok k) = true from h))
      exact ⟨by simpa [PyData.canLay0] using h1, by simp only [PyData.depth]; omega⟩
  | .lst xs, k, h => by
    rw [DV.py]
    cases k with
    | zero => cases h
    | succ k =>
      obtain ⟨h1, h2⟩ := pyAll_depth xs k (List.all_eq_true.mp (show xs.all (DV.ok k) = true from h))
      exact ⟨by simpa [PyData.canLay0] using h1, by simp only [PyData.depth]; omega⟩
  | .ref _, k, h => by cases k <;> cases h
  | .ty _, k, h => by cases k <;> cases h
  | .klst _, k, h => by cases k <;> cases h
  | .dk _, k, h => by cases k <;> cases h
  | .dt _, k, h => by cases k <;> cases h
  | .ins _ _, k, h => by cases k <;> cases h
theorem pyAll_depth : ∀ (ds : List DV) (k : Nat), (∀ d ∈ ds, d.ok k = true) → PyData.canLayAll0 (pyAll ds) = true ∧ PyData.depthAll (pyAll ds) ≤ k
  | [], k, _ => by rw [pyAll]; exact ⟨rfl, by simp [PyData.depthAll]⟩
  | d :: ds, k, h => by
    rw [pyAll]
    obtain ⟨h1, h2⟩ := py_depth d k (h d List.mem_cons_self)
    obtain ⟨h3, h4⟩ := pyAll_depth ds k fun x hx => h x (List.mem_cons_of_mem _ hx)
    exact ⟨by simp [PyData.canLayAll0, h1, h3], by simp only [PyData.depthAll]; omega⟩
end
theorem shaped_of_ok {d : DV} (h : d.ok 60 = true) : SeqAt.shaped d.py = true := by
  obtain ⟨h1, h2⟩ := py_depth d 60 h
  unfold SeqAt.shaped
  rw [h1, decide_eq_true (by omega : d.py.depth ≤ 64)]
  rfl
/-- Python's == of data -/
def eqD (x y : DV) : Bool := PyData.eqv x.py y.py

/-! ### comparisons -/
def OpB (K : PySem.W.Frag) (r : R2) (g : DV → DV → (Bool → Prop) → Prop) : Prop :=
  (∀ x y Q Q', (∀ c, Q c → Q' c) → g x y Q → g x y Q') ∧
  ∀ F H v u x y Q, Same F H → Hold K F v x → Hold K F u y → g x y (fun k => Q (.bl k) H) → r v u H Q
def dCmp (g : DV → DV → (Bool → Prop) → Prop) (fa fb : DD) : DT := fun env Q => fa env fun x e1 => fb e1 fun y e2 => g x y fun k => Q k e2
def dBl (f : DT) : DD := fun env Q => f env fun k e => Q (.bl k) e
section
variable {X : Cx} {Z : ZX} {a b : Expr} {ca cb : Nat} {fa fb : DD} {pos : Pos} {op : CmpOp}
theorem mono_cmp {g : DV → DV → (Bool → Prop) → Prop} (mg : ∀ x y Q Q', (∀ c, Q c → Q' c) → g x y Q → g x y Q') (ma : MonoC fa) (mb : MonoC fb) : MonoC (dCmp g fa fb) := fun env Q Q' q h =>
  ma _ _ _ (fun x e1 h1 => mb _ _ _ (fun y e2 h2 => mg _ _ _ _ (fun c => q _ _) h2) h1) h
theorem pdCmpR {r : R2} {g : DV → DV → (Bool → Prop) → Prop} (ho : OpR X (compareOp op) r) (hr : OpB X.K r g) (hm : behindInMarks op b = false) (ha : PEd X Z a ca fa) (hb : PEd X Z b cb fb) : PEd X Z (.Compare a [op] [b] pos) (ca + cb) (dBl (dCmp g fa fb)) := by
  refine ⟨fun env Q Q' q h => mono_cmp hr.1 ha.mono hb.mono _ _ _ (fun k e => q _ _) h, PE_imp (pe_cmpR ho ha.run hb.run hm) fun σ H Q ⟨B, F, n, env, hn, S, h⟩ => ?_⟩
  refine bindD ha.mono (by omega) S h fun x e1 v H1 F1 h1 S1 x1 hv => ?_
  refine bindD hb.mono (by omega) S1 h1 fun y e2 u H2 F2 h2 S2 x2 hu => ?_
  rw [Nat.add_assoc] at S2
  exact hr.2 F2 H2 v u x y Q S2.same (hv.mono x2) hu (hr.1 _ _ _ _ (fun k q => q _ H2 F2 S2 (x1.trans x2) (.bl k)) h2)
theorem ptCmpR {r : R2} {g : DV → DV → (Bool → Prop) → Prop} (ho : OpR X (compareOp op) r) (hr : OpB X.K r g) (hm : behindInMarks op b = false) (ha : PEd X Z a ca fa) (hb : PEd X Z b cb fb) : PTd X Z (.Compare a [op] [b] pos) (ca + cb) (dCmp g fa fb) := by
  refine ⟨mono_cmp hr.1 ha.mono hb.mono, PT_imp (pt_cmpR ho ha.run hb.run hm) fun σ H Q ⟨B, F, n, env, hn, S, h⟩ => ?_⟩
  refine bindD ha.mono (by omega) S h fun x e1 v H1 F1 h1 S1 x1 hv => ?_
  refine bindD hb.mono (by omega) S1 h1 fun y e2 u H2 F2 h2 S2 x2 hu => ?_
  rw [Nat.add_assoc] at S2
  exact hr.2 F2 H2 v u x y _ S2.same (hv.mono x2) hu (hr.1 _ _ _ _ (fun k q => ⟨k, rfl, q H2 F2 S2 (x1.trans x2)⟩) h2)
/-- another value as a test: a bool -/
def dAsB (f : DD) : DT := fun env Q => f env fun d e => match d with
  | .bl k => Q k e
  | _ => False
theorem ptVal {e : Expr} {c : Nat} {f : DD} (h : PEd X Z e c f) (he : ∀ whole, isTrue e X.env whole = (do let v ← whole; standAt e.pos; holding [v] (truthy v)) := by intro _; rfl) : PTd X Z e c (dAsB f) := by
  refine ⟨fun env Q Q' q g => h.mono _ _ _ (fun d e g => ?_) g, PT_imp (pt_val h.run he) fun σ H Q ⟨B, F, n, env, hn, S, g⟩ => bindD h.mono hn S g fun d e v H1 F1 h1 S1 x1 hv => ?_⟩
  · cases d <;> first | exact q _ _ g | exact g
  · cases hv <;> first | exact ⟨_, rfl, h1 H1 F1 S1 x1⟩ | exact h1.elim
end
def gB2 (h : Int → Int → Bool) : DV → DV → (Bool → Prop) → Prop := fun x y Q => match x, y with
  | .int i, .int j => Q (h i j)
  | _, _ => False
theorem opB2 {K : PySem.W.Frag} {h : Int → Int → Bool} : OpB K (rI0 fun i j => .bl (h i j)) (gB2 h) := by
  refine ⟨fun x y Q Q' q g => ?_, fun F H v u x y Q S hv hu g => ?_⟩
  · cases x <;> cases y <;> first | exact q _ g | exact g
  · cases hv <;> first | (cases hu <;> first | exact ⟨_, _, rfl, rfl, g⟩ | exact g.elim) | exact (by cases y <;> exact g.elim)
def gEq (neg : Bool) : DV → DV → (Bool → Prop) → Prop := fun x y Q => (x.ok 60 = true ∧ y.ok 60 = true) ∧ Q (if neg then !eqD x y else eqD x y)
section
variable {X : Cx} {Z : ZX} {a b : Expr} {ca cb : Nat} {fa fb : DD} {pos : Pos}
theorem opEqB {K : PySem.W.Frag} : OpB K (rEqD K) (gEq false) := ⟨fun x y Q Q' q g => ⟨g.1, q _ g.2⟩, fun F H v u x y Q S hv hu g =>
  ⟨_, _, Dp_mono S (dp_of hv 60 g.1.1), Dp_mono S (dp_of hu 60 g.1.2), shaped_of_ok g.1.1, shaped_of_ok g.1.2, g.2⟩⟩
theorem opNeB {K : PySem.W.Frag} : OpB K (rNeD K) (gEq true) := ⟨fun x y Q Q' q g => ⟨g.1, q _ g.2⟩, fun F H v u x y Q S hv hu g =>
  ⟨_, _, Dp_mono S (dp_of hv 60 g.1.1), Dp_mono S (dp_of hu 60 g.1.2), shaped_of_ok g.1.1, shaped_of_ok g.1.2, g.2⟩⟩
theorem ptLt (ha : PEd X Z a ca fa) (hb : PEd X Z b cb fb) : PTd X Z (.Compare a [.Lt] [b] pos) (ca + cb) (dCmp (gB2 fun i j => decide (i < j)) fa fb) := ptCmpR op_lt opB2 (nomark _) ha hb
theorem ptGt (ha : PEd X Z a ca fa) (hb : PEd X Z b cb fb) : PTd X Z (.Compare a [.Gt] [b] pos) (ca + cb) (dCmp (gB2 fun i j => decide (j < i)) fa fb) := ptCmpR op_gt opB2 (nomark _) ha hb
theorem ptGe (ha : PEd X Z a ca fa) (hb : PEd X Z b cb fb) : PTd X Z (.Compare a [.GtE] [b] pos) (ca + cb) (dCmp (gB2 fun i j => decide (j ≤ i)) fa fb) := ptCmpR op_ge opB2 (nomark _) ha hb
theorem ptEq (hu : X.A.units + 64 < cLine) (ha : PEd X Z a ca fa) (hb : PEd X Z b cb fb) : PTd X Z (.Compare a [.Eq] [b] pos) (ca + cb) (dCmp (gEq false) fa fb) := ptCmpR (op_eqD hu) opEqB (nomark _) ha hb
theorem ptNe (hu : X.A.units + 64 < cLine) (ha : PEd X Z a ca fa) (hb : PEd X Z b cb fb) : PTd X Z (.Compare a [.NotEq] [b] pos) (ca + cb) (dCmp (gEq true) fa fb) := ptCmpR (op_neD hu) opNeB (nomark _) ha hb
theorem pdLt (ha : PEd X Z a ca fa) (hb : PEd X Z b cb fb) : PEd X Z (.Compare a [.Lt] [b] pos) (ca + cb) (dBl (dCmp (gB2 fun i j => decide (i < j)) fa fb)) := pdCmpR op_lt opB2 (nomark _) ha hb
theorem pdEq (hu : X.A.units + 64 < cLine) (ha : PEd X Z a ca fa) (hb : PEd X Z b cb fb) : PEd X Z (.Compare a [.Eq] [b] pos) (ca + cb) (dBl (dCmp (gEq false) fa fb)) := pdCmpR (op_eqD hu) opEqB (nomark _) ha hb
/-! ### and, or, not, if-expressions -/
def dAnd (f g : DT) : DT := fun env Q => f env fun k e => if k = true then g e Q else Q false e
def dOr (f g : DT) : DT := fun env Q => f env fun k e => if k = true then Q true e else g e Q
def dNot (f : DT) : DT := fun env Q => f env fun k e => Q (!k) e
variable {tA tB : DT} {rest : List Expr}
theorem mono_and (ma : MonoC tA) (mb : MonoC tB) : MonoC (dAnd tA tB) := fun env Q Q' q h => ma _ _ _ (fun k e g => by
  cases k with
  | true => exact mb _ _ _ q g
  | false => exact q _ _ g) h
theorem mono_or (ma : MonoC tA) (mb : MonoC tB) : MonoC (dOr tA tB) := fun env Q Q' q h => ma _ _ _ (fun k e g => by
  cases k with
  | true => exact q _ _ g
  | false => exact mb _ _ _ q g) h
theorem pwAnd1 (ha : PTd X Z a ca tA) : PWd X Z (.BoolOp .And [a] pos) ca tA := ⟨ha.mono, pw_and1 ha.run⟩
theorem pwOr1 (ha : PTd X Z a ca tA) : PWd X Z (.BoolOp .Or [a] pos) ca tA := ⟨ha.mono, pw_or1 ha.run⟩
theorem pwAnd (ha : PTd X Z a ca tA) (hb : PWd X Z (.BoolOp .And (b :: rest) pos) cb tB) : PWd X Z (.BoolOp .And (a :: b :: rest) pos) (ca + cb) (dAnd tA tB) := by
  refine ⟨mono_and ha.mono hb.mono, PW_imp (pw_and ha.run hb.run) fun σ H Q ⟨B, F, n, env, hn, S, h⟩ => ?_⟩
  refine bindT ha.mono (by omega) S h fun k e H1 F1 h1 S1 x1 => ?_
  cases k with
  | true =>
    refine bindT hb.mono (by omega) S1 h1 fun k2 e2 H2 F2 h2 S2 x2 => ?_
    rw [Nat.add_assoc] at S2
    exact h2 H2 F2 S2 (x1.trans x2)
  | false => exact h1 H1 F1 (S1.mono (by omega)) x1
theorem pwOr (ha : PTd X Z a ca tA) (hb : PWd X Z (.BoolOp .Or (b :: rest) pos) cb tB) : PWd X Z (.BoolOp .Or (a :: b :: rest) pos) (ca + cb) (dOr tA tB) := by
  refine ⟨mono_or ha.mono hb.mono, PW_imp (pw_or ha.run hb.run) fun σ H Q ⟨B, F, n, env, hn, S, h⟩ => ?_⟩
  refine bindT ha.mono (by omega) S h fun k e H1 F1 h1 S1 x1 => ?_
  cases k with
  | false =>
    refine bindT hb.mono (by omega) S1 h1 fun k2 e2 H2 F2 h2 S2 x2 => ?_
    rw [Nat.add_assoc] at S2
    exact h2 H2 F2 S2 (x1.trans x2)
  | true => exact h1 H1 F1 (S1.mono (by omega)) x1
theorem PWd.pt {e : Expr} {c : Nat} {f : DT} (h : PWd X Z e c f) : PTd X Z e c f := ⟨h.mono, h.run.pt⟩
theorem ptNot (ha : PTd X Z a ca tA) : PTd X Z (.UnaryOp .Not a pos) ca (dNot tA) := ⟨fun env Q Q' q h => ha.mono _ _ _ (fun k e g => q _ _ g) h, PT_imp (pt_not ha.run) fun σ H Q ⟨B, F, n, env, hn, S, h⟩ => ⟨B, F, n, env, hn, S, h⟩⟩
/-- as values -/
def dAndV (fa fb : DD) : DD := fun env Q => fa env fun d e => match d with
  | .bl k => if k = true then fb e Q else Q (.bl false) e
  | _ => False
def dOrV (fa fb : DD) : DD := fun env Q => fa env fun d e => match d with
  | .bl k => if k = true then Q (.bl true) e else fb e Q
  | _ => False
def dNotV (fa : DD) : DD := fun env Q => fa env fun d e => match d with
  | .bl k => Q (.bl (!k)) e
  | _ => False
theorem pdOne {op : BoolOp} {c : Nat} {f : DD} (h : PEd X Z a c f) : PEd X Z (.BoolOp op [a] pos) c f := ⟨h.mono, pe_one h.run⟩
theorem pdAnd (ha : PEd X Z a ca fa) (hb : PEd X Z (.BoolOp .And (b :: rest) pos) cb fb) : PEd X Z (.BoolOp .And (a :: b :: rest) pos) (ca + cb) (dAndV fa fb) := by
  refine ⟨fun env Q Q' q h => ha.mono _ _ _ (fun d e g => ?_) h, PE_imp (pe_and ha.run hb.run) fun σ H Q ⟨B, F, n, env, hn, S, h⟩ => bindD ha.mono (by omega) S h fun d e v H1 F1 h1 S1 x1 hv => ?_⟩
  · cases d <;> first | exact g | skip
    rename_i k
    cases k with
    | true => exact hb.mono _ _ _ q g
    | false => exact q _ _ g
  · cases hv <;> first | exact h1.elim | skip
    rename_i k
    refine ⟨k, rfl, ?_⟩
    cases k with
    | true =>
      refine bindD hb.mono (by omega) S1 h1 fun y e2 u H2 F2 h2 S2 x2 hu => ?_
      rw [Nat.add_assoc] at S2
      exact h2 u H2 F2 S2 (x1.trans x2) hu
    | false => exact h1 _ H1 F1 (S1.mono (by omega)) x1 (.bl false)
theorem pdNot (ha : PEd X Z a ca fa) : PEd X Z (.UnaryOp .Not a pos) ca (dNotV fa) := by
  refine ⟨fun env Q Q' q h => ha.mono _ _ _ (fun d e g => ?_) h, PE_imp (pe_not ha.run) fun σ H Q ⟨B, F, n, env, hn, S, h⟩ => bindD ha.mono (by omega) S h fun d e v H1 F1 h1 S1 x1 hv => ?_⟩
  · cases d <;> first | exact g | exact q _ _ g
  · cases hv <;> first | exact h1.elim | exact ⟨_, rfl, h1 _ H1 F1 S1 x1 (.bl _)⟩
def dIf (t : DT) (fa fb : DE) : DE := fun env Q => t env fun k e => if k = true then fa e Q else fb e Q
theorem pcIf {c : Expr} {cc : Nat} {t : DT} {ga gb : DE} (hc : PTd X Z c cc t) (ha : PEc X Z a ca ga) (hb : PEc X Z b cb gb) : PEc X Z (.IfExp c a b pos) (cc + ca + cb) (dIf t ga gb) := by
  refine ⟨fun env Q Q' q h => hc.mono _ _ _ (fun k e g => ?_) h, PE_imp (pe_ifExp hc.run ha.run hb.run) fun σ H Q ⟨B, F, n, env, hn, S, h⟩ => bindT hc.mono (by omega) S h fun k e H1 F1 h1 S1 x1 => ?_⟩
  · cases k with
    | true => exact ha.mono _ _ _ q g
    | false => exact hb.mono _ _ _ q g
  · cases k with
    | true => exact bindC ha.mono (by omega) S1 h1 fun y e2 u H2 F2 h2 S2 x2 hu => h2 u H2 F2 (S2.mono (by omega)) (x1.trans x2) (hu.mono (by omega))
    | false => exact bindC hb.mono (by omega) S1 h1 fun y e2 u H2 F2 h2 S2 x2 hu => h2 u H2 F2 (S2.mono (by omega)) (x1.trans x2) (hu.mono (by omega))
end

/-! ### arithmetic -/
def gAdd : DV → DV → (Cell → Prop) → Prop := fun x y Q => match x, y with
  | .int i, .int j => Q (.d (.int (i + j)))
  | .str s, .str t => s.length + t.length ≤ sizeLine ∧ Q (.d (.str (s ++ t)))
  | .lst xs, .lst ys => xs.length + ys.length ≤ sizeLine ∧ Q (.o false (.l (xs ++ ys)))
  | .tup xs, .tup ys => xs.length + ys.length ≤ sizeLine ∧ Q (.d (.tup (xs ++ ys)))
  | _, _ => False
def rAdd4 (K : PySem.W.Frag) : R2 := fun x y H Q => rI0 (fun i j => .int (i + j)) x y H Q ∨ (∃ i j, x = .str i ∧ y = .str j ∧ i.length + j.length ≤ sizeLine ∧ Q (.str (i ++ j)) H) ∨ rCat x y H Q ∨ rCatA K x y H Q
theorem op_add4 {X : Cx} : OpR X (binaryOp .Add) (rAdd4 X.K) := OpR.or op_add (OpR.or op_add_str (OpR.or op_cat op_catA))
section
variable {B : Base} {K : PySem.W.Frag} {Z : ZX} {F H : Hp} {n : Nat} {σ : L2.St} {env : List Cell}
/-- a new tuple of data -/
theorem new_tup (S : SOk B K Z F H n σ env) {vs : List V} {xs : List DV} (h : HoldAll K F vs xs) {p : Addr} (hp : H p = none) :
    ∃ F', SOk B K Z F' (upd H p (.tup vs)) n σ env ∧ Ext F F' ∧ Hold K F' (.ref p) (.tup xs) := by
  obtain ⟨S', s⟩ := S.alloc (o := .tup vs) hp
  exact ⟨_, S', Ext.of s, .tup upd_same (h.mono (Ext.of s))⟩
/-- a new list, owned by nobody yet -/
theorem new_lst (S : SOk B K Z F H n σ env) {vs : List V} {xs : List DV} (h : HoldAll K F vs xs) {p : Addr} (hp : H p = none) :
    SOk B K Z F (upd H p (.lst vs)) n σ env ∧ Res B K F (upd H p (.lst vs)) n σ env (.ref p) (.o false (.l xs)) :=
  S.freshOwn (oc := .l xs) hp ⟨vs, upd_same, h⟩
end
theorem op2Add {K : PySem.W.Frag} : Op2 K (rAdd4 K) gAdd := by
  refine ⟨fun x y Q Q' q g => ?_, fun B Z F H n σ env v u x y Q S hv hu g => ?_⟩
  · cases x <;> cases y <;> first | exact q _ g | exact ⟨g.1, q _ g.2⟩ | exact g
  · cases hv with
    | int i => cases hu <;> first | exact .inl ⟨_, _, rfl, rfl, g _ H F S (Ext.refl _) (Res.dat (.int _))⟩ | exact g.elim
    | str i => cases hu <;> first | exact .inr (.inl ⟨_, _, rfl, rfl, g.1, g.2 _ H F S (Ext.refl _) (Res.dat (.str _))⟩) | exact g.elim
    | lst ha hxs =>
      cases hu with
      | lst hb hys =>
        refine .inr (.inr (.inl ⟨_, _, _, _, rfl, rfl, S.same _ _ ha, S.same _ _ hb, by rw [hxs.length, hys.length]; exact g.1, fun p hp => ?_⟩))
        obtain ⟨S', r⟩ := new_lst S (hxs.append hys) hp
        exact g.2 _ _ F S' (Ext.refl _) r
      | _ => exact g.elim
    | tup ha hxs =>
      cases hu with
      | tup hb hys =>
        have hA := SqT.of (K := K) (S.same _ _ ha)
        have hB := SqT.of (K := K) (S.same _ _ hb)
        refine .inr (.inr (.inr ⟨_, _, _, _, rfl, rfl, hA, hB, by rw [hxs.length, hys.length]; exact g.1, fun z => ?_, fun z1 z2 => ?_, fun z1 z2 p hp => ?_⟩))
        · subst z
          cases hxs
          exact g.2 _ H F S (Ext.refl _) (Res.dat (.tup hb hys))
        · subst z2
          cases hys
          exact g.2 _ H F S (Ext.refl _) (Res.dat (by rw [List.append_nil]; exact .tup ha hxs))
        · obtain ⟨F', S', x', h'⟩ := new_tup S (hxs.append hys) hp
          exact g.2 _ _ F' S' x' (Res.dat h')
      | _ => exact g.elim
    | _ => cases y <;> exact g.elim
def gMul : DV → DV → (Cell → Prop) → Prop := fun x y Q => match x, y with
  | .int i, .int j => (CMul i j ∨ CMulW i j) ∧ Q (.d (.int (i * j)))
  | .lst xs, .int k => (-(2 ^ 63) ≤ k ∧ k < 2 ^ 63 ∧ xs.length * k.toNat ≤ sizeLine) ∧ Q (.o false (.l (List.replicate k.toNat xs).flatten))
  | .tup xs, .int k => (xs ≠ [] ∧ 2 ≤ k ∧ k ≤ 1000 ∧ xs.length ≤ 1000) ∧ Q (.d (.tup (List.replicate k.toNat xs).flatten))
  | _, _ => False
def rMul5 (K : PySem.W.Frag) : R2 := fun x y H Q => rI CMul (fun i j => .int (i * j)) x y H Q ∨ rI CMulW (fun i j => .int (i * j)) x y H Q ∨ rRep x y H Q ∨ rRepT K x y H Q
theorem op_mul5 {X : Cx} : OpR X (binaryOp .Mult) (rMul5 X.K) := OpR.or op_mul (OpR.or op_mulW (OpR.or op_rep op_repT))
theorem HoldAll.rep {K : PySem.W.Frag} {F : Hp} {vs : List V} {xs : List DV} (h : HoldAll K F vs xs) : ∀ k : Nat, HoldAll K F (List.replicate k vs).flatten (List.replicate k xs).flatten
  | 0 => .nil
  | k + 1 => by
    rw [List.replicate_succ, List.replicate_succ, List.flatten_cons, List.flatten_cons]
    exact h.append (h.rep k)
theorem op2Mul {K : PySem.W.Frag} : Op2 K (rMul5 K) gMul := by
  refine ⟨fun x y Q Q' q g => ?_, fun B Z F H n σ env v u x y Q S hv hu g => ?_⟩
  · cases x <;> cases y <;> first | exact q _ g | exact ⟨g.1, q _ g.2⟩ | exact g
  · cases hv with
    | int i =>
      cases hu with
      | int j =>
        obtain ⟨c, g⟩ := g
        rcases c with c | c
        · exact .inl ⟨_, _, rfl, rfl, c, g _ H F S (Ext.refl _) (Res.dat (.int _))⟩
        · exact .inr (.inl ⟨_, _, rfl, rfl, c, g _ H F S (Ext.refl _) (Res.dat (.int _))⟩)
      | _ => exact g.elim
    | lst ha hxs =>
      cases hu with
      | int k =>
        refine .inr (.inr (.inl ⟨_, _, _, rfl, rfl, S.same _ _ ha, g.1.1, g.1.2.1, by rw [hxs.length]; exact g.1.2.2, fun p hp => ?_⟩))
        obtain ⟨S', r⟩ := new_lst S (hxs.rep k.toNat) hp
        exact g.2 _ _ F S' (Ext.refl _) r
      | _ => exact g.elim
    | tup ha hxs =>
      cases hu with
      | int k =>
        have hA := SqT.of (K := K) (S.same _ _ ha)
        refine .inr (.inr (.inr ⟨_, _, _, rfl, rfl, hA, ?_, g.1.2.1, g.1.2.2.1, by rw [hxs.length]; exact g.1.2.2.2, fun p hp => ?_⟩))
        · intro z
          subst z
          cases hxs
          exact g.1.1 rfl
        · obtain ⟨F', S', x', h'⟩ := new_tup S (hxs.rep k.toNat) hp
          exact g.2 _ _ F' S' x' (Res.dat h')
      | _ => exact g.elim
    | _ => cases y <;> exact g.elim
section
variable {X : Cx} {Z : ZX} {a b : Expr} {ca cb : Nat} {fa fb : DD} {pos : Pos}
theorem pcAdd (ha : PEd X Z a ca fa) (hb : PEd X Z b cb fb) : PEc X Z (.BinOp a .Add b pos) (ca + cb) (dOp2 gAdd fa fb) := PEc.op2 op2Add ha hb (pe_op op_add4 ha.run hb.run)
theorem pcMul (ha : PEd X Z a ca fa) (hb : PEd X Z b cb fb) : PEc X Z (.BinOp a .Mult b pos) (ca + cb) (dOp2 gMul fa fb) := PEc.op2 op2Mul ha hb (pe_op op_mul5 ha.run hb.run)
theorem pdSub (ha : PEd X Z a ca fa) (hb : PEd X Z b cb fb) : PEd X Z (.BinOp a .Sub b pos) (ca + cb) (dOp2d (gI0 fun i j => .int (i - j)) fa fb) := PEd.op2 (op2I0 fun _ _ _ => .int _) ha hb (pe_op op_sub ha.run hb.run)
/-- by a positive number -/
theorem pdMod (ha : PEd X Z a ca fa) (hb : PEd X Z b cb fb) : PEd X Z (.BinOp a .Mod b pos) (ca + cb) (dOp2d (gI2 (fun _ j => 0 < j) fun i j => .int (i % j)) fa fb) := PEd.op2 (op2I fun _ _ _ => .int _) ha hb (pe_op op_mod ha.run hb.run)
theorem pdFdiv (ha : PEd X Z a ca fa) (hb : PEd X Z b cb fb) : PEd X Z (.BinOp a .FloorDiv b pos) (ca + cb) (dOp2d (gI2 CDivW fun i j => .int (i / j)) fa fb) := PEd.op2 (op2I fun _ _ _ => .int _) ha hb (pe_op op_fdivW ha.run hb.run)
def CPowW (i j : Int) : Prop := 0 ≤ j ∧ ((Builtin.Int.intBits i : Nat) : Int) * j ≤ 2 ^ 27
theorem op_powW : OpR X (binaryOp .Pow) (rI CPowW fun i j => .int (i ^ j.toNat)) := opI fun _ _ _ _ _ _ _ hc q => pow_int hc.1 hc.2 q
theorem pdPow (ha : PEd X Z a ca fa) (hb : PEd X Z b cb fb) : PEd X Z (.BinOp a .Pow b pos) (ca + cb) (dOp2d (gI2 CPowW fun i j => .int (i ^ j.toNat)) fa fb) := PEd.op2 (op2I fun _ _ _ => .int _) ha hb (pe_op op_powW ha.run hb.run)
def dNeg (fa : DD) : DD := fun env Q => fa env fun d e => match d with
  | .int i => Q (.int (-i)) e
  | _ => False
theorem pdNeg (ha : PEd X Z a ca fa) : PEd X Z (.UnaryOp .USub a pos) ca (dNeg fa) := by
  refine ⟨fun env Q Q' q h => ha.mono _ _ _ (fun d e g => ?_) h, PE_imp (pe_un un_neg ha.run) fun σ H Q ⟨B, F, n, env, hn, S, h⟩ => bindD ha.mono (by omega) S h fun d e v H1 F1 h1 S1 x1 hv => ?_⟩
  · cases d <;> first | exact g | exact q _ _ g
  · cases hv <;> first | exact h1.elim | exact ⟨_, rfl, h1 _ H1 F1 S1 x1 (.int _)⟩
end
end DL
set_option maxRecDepth 100000
set_option maxHeartbeats 4000000
namespace DL
open PySem PySem.Spec PyProof.Rows L2

/-! ### statements -/
structure EndsD where
  nx : List Cell → Prop
  rt : Cell → List Cell → Prop
  bk : List Cell → Prop := fun _ => False
  ct : List Cell → Prop := fun _ => False
abbrev WS := EndsD → List Cell → Prop
structure EndsD.le (D D' : EndsD) : Prop where
  nx : ∀ e, D.nx e → D'.nx e
  rt : ∀ r e, D.rt r e → D'.rt r e
  bk : ∀ e, D.bk e → D'.bk e
  ct : ∀ e, D.ct e → D'.ct e
def MonoS (w : WS) : Prop := ∀ (D D' : EndsD) (env : List Cell), D.le D' → w D env → w D' env
/-- the ends, by data -/
def endD (B : Base) (K : PySem.W.Frag) (Z : ZX) (F : Hp) (m : Nat) (D : Ends) : EndsD where
  nx := fun e => ∀ σ' H' F', SOk B K Z F' H' m σ' e → Ext F F' → D.nx σ' H'
  rt := fun r e => ∀ v σ' H' F', SOk B K Z F' H' m σ' e → Ext F F' → Res B K F' H' m σ' e v r → D.rt v H'
  bk := fun e => ∀ σ' H' F', SOk B K Z F' H' m σ' e → Ext F F' → D.bk σ' H'
  ct := fun e => ∀ σ' H' F', SOk B K Z F' H' m σ' e → Ext F F' → D.ct σ' H'
def tDs (K : PySem.W.Frag) (Z : ZX) (c : Nat) (w : WS) : TS := fun D σ H => ∃ B F n env, n + c ≤ Z.M ∧ SOk B K Z F H n σ env ∧ w (endD B K Z F (n + c) D) env
structure PSd (X : Cx) (Z : ZX) (st : Stmt) (c : Nat) (w : WS) : Prop where
  mono : MonoS w
  run : PS X st (tDs X.K Z c w)
structure PSSd (X : Cx) (Z : ZX) (st : List Stmt) (c : Nat) (w : WS) : Prop where
  mono : MonoS w
  run : PSs X st (tDs X.K Z c w)
theorem PS_imp {X : Cx} {st : Stmt} {t t' : TS} (h : PS X st t) (i : ∀ D σ H, t' D σ H → t D σ H) : PS X st t' := ⟨fun pins s σ H D I q => h.run pins s σ H D I (i _ _ _ q)⟩
theorem PSs_imp {X : Cx} {st : List Stmt} {t t' : TS} (h : PSs X st t) (i : ∀ D σ H, t' D σ H → t D σ H) : PSs X st t' := ⟨fun pins s σ H D I q => h.run pins s σ H D I (i _ _ _ q)⟩
section
variable {B : Base} {K : PySem.W.Frag} {Z : ZX} {F F1 H : Hp} {n m c : Nat} {σ : L2.St} {env : List Cell} {D D' : Ends}
/-- a statement within another's end -/
theorem bindS {w : WS} {E : EndsD} (mw : MonoS w) (hn : n + c ≤ Z.M) (S : SOk B K Z F H n σ env) (x : Ext F1 F) (h : w E env) (le : E.le (endD B K Z F (n + c) D)) : tDs K Z c w D σ H :=
  ⟨B, F, n, env, hn, S, mw _ _ _ le h⟩
/-- the end asks less where more was spent, or more is frozen -/
theorem endD_le (x : Ext F1 F) (hm : n ≤ m) : (endD B K Z F1 m D).le (endD B K Z F n D) where
  nx := fun e h σ' H' F' S q => h σ' H' F' (S.mono hm) (x.trans q)
  rt := fun r e h v σ' H' F' S q z => h v σ' H' F' (S.mono hm) (x.trans q) (z.mono hm)
  bk := fun e h σ' H' F' S q => h σ' H' F' (S.mono hm) (x.trans q)
  ct := fun e h σ' H' F' S q => h σ' H' F' (S.mono hm) (x.trans q)
end
section
variable {X : Cx} {Z : ZX} {st : Stmt} {rest : List Stmt} {e : Expr} {pos : Pos}
def wNil : WS := fun D env => D.nx env
def wSeq (u w : WS) : WS := fun D env => u { D with nx := w D } env
theorem EndsD.le.nxto {D D' : EndsD} (l : D.le D') {p q : List Cell → Prop} (h : ∀ e, p e → q e) : ({ D with nx := p } : EndsD).le { D' with nx := q } := ⟨h, l.rt, l.bk, l.ct⟩
theorem psNil : PSSd X Z [] 0 wNil := ⟨fun D D' env l h => l.nx _ h, PSs_imp pss_nil fun D σ H ⟨B, F, n, env, hn, S, h⟩ => h σ H F S (Ext.refl _)⟩
theorem psCons {c1 c2 : Nat} {u w : WS} (h1 : PSd X Z st c1 u) (h2 : PSSd X Z rest c2 w) : PSSd X Z (st :: rest) (c1 + c2) (wSeq u w) := by
  refine ⟨fun D D' env l h => h1.mono _ _ _ (l.nxto fun e => h2.mono _ _ _ l) h, PSs_imp (pss_cons h1.run h2.run) fun D σ H ⟨B, F, n, env, hn, S, h⟩ => ?_⟩
  refine bindS (c := c1) h1.mono (by omega) S (Ext.refl _) h ⟨fun e h2' σ' H' F' S' x => ?_, ?_, ?_, ?_⟩
  · refine bindS (c := c2) h2.mono (by omega) S' x h2' ?_
    rw [Nat.add_assoc]
    exact endD_le x (Nat.le_refl _)
  · exact (endD_le (Ext.refl _) (by omega)).rt
  · exact (endD_le (Ext.refl _) (by omega)).bk
  · exact (endD_le (Ext.refl _) (by omega)).ct
def wBreak : WS := fun D env => D.bk env
def wCont : WS := fun D env => D.ct env
def wNever : WS := fun _ _ => False
/-- name = e -/
def okSet (env : List Cell) (i : Nat) : Prop := match env[i]? with
  | some (.o true _) => False
  | _ => True
theorem okSet_of {env : List Cell} {i : Nat} (h : okSet env i) : ∀ c, env[i]? = some c → c.bor = false := fun c e => by
  unfold okSet at h
  cases c with
  | un => rfl
  | d x => rfl
  | o b c =>
    cases b with
    | false => rfl
    | true => rw [e] at h; exact h.elim
def wSet (i : Nat) (f : DE) : WS := fun D env => f env fun r e => okSet e i ∧ D.nx (e.set i r)
theorem psSet {i : Nat} {x : Str} {pos' : Pos} {c : Nat} {f : DE} (hN : X.N.Nodup) (hi : X.N[i]? = some x) (hx : Loc X.env.scope x) (he : PEc X Z e c f) (hs : swapsWith e (some (.Name x pos')) pos.line X.env = pure false := by rfl)
    (hf : X.fn x = true ∨ X.env.scope.names.lookup x = some .local := by first | exact .inl rfl | exact .inr rfl | assumption) : PSd X Z (.Assign [.Name x pos'] e pos) c (wSet i f) := by
  refine ⟨fun D D' env l h => he.mono _ _ _ (fun r e g => ⟨g.1, l.nx _ g.2⟩) h, PS_imp (ps_set hN hi hx he.run hs hf) fun D σ H ⟨B, F, n, env, hn, S, h⟩ => ?_⟩
  exact bindC he.mono hn S h fun r e v H1 F1 h1 S1 x1 hr => h1.2 _ H1 F1 (S1.store hr i (okSet_of h1.1)) x1
/-- the value is dropped -/
def wDrop (f : DE) : WS := fun D env => f env fun r e => D.nx e
theorem psExpr {c : Nat} {f : DE} (he : PEc X Z e c f) (hs : swapsWith e none pos.line X.env = pure false := by rfl) : PSd X Z (.Expr e pos) c (wDrop f) :=
  ⟨fun D D' env l h => he.mono _ _ _ (fun r e g => l.nx _ g) h, PS_imp (ps_expr he.run hs) fun D σ H ⟨B, F, n, env, hn, S, h⟩ => bindC he.mono hn S h fun r e v H1 F1 h1 S1 x1 hr => h1 σ H1 F1 S1 x1⟩
def wRet (f : DE) : WS := fun D env => f env fun r e => D.rt r e
theorem psRet {c : Nat} {f : DE} (he : PEc X Z e c f) : PSd X Z (.Return (some e) pos) c (wRet f) :=
  ⟨fun D D' env l h => he.mono _ _ _ (fun r e g => l.rt _ _ g) h, PS_imp (ps_ret he.run) fun D σ H ⟨B, F, n, env, hn, S, h⟩ => bindC he.mono hn S h fun r e v H1 F1 h1 S1 x1 hr => h1 v σ H1 F1 S1 x1 hr⟩
def wRetN : WS := fun D env => D.rt (.d .non) env
def wIf (t : DT) (u w : WS) : WS := fun D env => t env fun k e => if k = true then u D e else w D e
theorem psIf {a b : List Stmt} {ct c1 c2 : Nat} {t : DT} {u w : WS} (hc : PTd X Z e ct t) (ha : PSSd X Z a c1 u) (hb : PSSd X Z b c2 w) : PSd X Z (.If e a b pos) (ct + c1 + c2) (wIf t u w) := by
  refine ⟨fun D D' env l h => hc.mono _ _ _ (fun k e g => ?_) h, PS_imp (ps_if hc.run ha.run hb.run) fun D σ H ⟨B, F, n, env, hn, S, h⟩ => bindT hc.mono (by omega) S h fun k e H1 F1 h1 S1 x1 => ?_⟩
  · cases k with
    | true => exact ha.mono _ _ _ l g
    | false => exact hb.mono _ _ _ l g
  · cases k with
    | true => exact bindS (c := c1) ha.mono (by omega) S1 x1 h1 (endD_le x1 (by omega))
    | false => exact bindS (c := c2) hb.mono (by omega) S1 x1 h1 (endD_le x1 (by omega))
def wWhile (t : DT) (w : WS) : WS := fun D env => ∃ W : Nat → List Cell → Prop, (∃ m, W m env) ∧ ∀ m env, W m env → t env fun k e => if k = true then w { D with nx := fun e => ∃ m', m' < m ∧ W m' e, ct := fun e => ∃ m', m' < m ∧ W m' e, bk := D.nx } e else D.nx e
theorem psWhile {body : List Stmt} {t : DT} {w : WS} (hp : PassesOwn (model X.prog X.w) X.A X.env X.xe) (hc : PTd X Z e 0 t) (hb : PSSd X Z body 0 w) : PSd X Z (.While e body [] pos) 0 (wWhile t w) := by
  refine ⟨fun D D' env l ⟨W, h0, h⟩ => ⟨W, h0, fun m env hw => hc.mono _ _ _ (fun k e g => ?_) (h m env hw)⟩, PS_imp (ps_while hp hc.run hb.run) fun D σ H ⟨B, F, n, env, hn, S, W, ⟨m0, w0⟩, h⟩ => ?_⟩
  · cases k with
    | true => exact hb.mono { D with nx := fun e => ∃ m', m' < m ∧ W m' e, ct := fun e => ∃ m', m' < m ∧ W m' e, bk := D.nx } _ _ ⟨fun _ q => q, l.rt, l.nx, fun _ q => q⟩ g
    | false => exact l.nx _ g
  · refine ⟨fun m σ' H' => ∃ F' env', SOk B X.K Z F' H' n σ' env' ∧ Ext F F' ∧ W m env', ⟨m0, F, env, S, Ext.refl _, w0⟩, fun m σ1 H1 ⟨F1, env1, S1, x1, w1⟩ => ?_⟩
    refine bindT hc.mono hn S1 (h m env1 w1) fun k e H2 F2 h2 S2 x2 => ?_
    cases k with
    | false => exact h2 σ1 H2 F2 S2 (x1.trans x2)
    | true =>
      refine ⟨fun σ' H' => ∃ m', m' < m ∧ ∃ F' env', SOk B X.K Z F' H' n σ' env' ∧ Ext F F' ∧ W m' env', fun σ' H' q => q, ?_⟩
      refine bindS (c := 0) (n := n) hb.mono hn S2 x2 h2 ⟨fun e ⟨m', lt, w'⟩ σ' H' F' S' x' => ⟨m', lt, F', e, S', (x1.trans x2).trans x', w'⟩, fun r e q v σ' H' F' S' x' z => ?_, fun e q σ' H' F' S' x' => ?_, fun e ⟨m', lt, w'⟩ σ' H' F' S' x' => ⟨m', lt, F', e, S', (x1.trans x2).trans x', w'⟩⟩
      · exact q v σ' H' F' S' ((x1.trans x2).trans x') z
      · exact q σ' H' F' S' ((x1.trans x2).trans x')
end

/-! ### targets -/
abbrev DG := DV → List Cell → (List Cell → Prop) → Prop
abbrev DGs := List DV → List Cell → (List Cell → Prop) → Prop
/-- the slots but these are as they were -/
def Off (js : List Nat) (σ σ' : L2.St) : Prop := σ'.length = σ.length ∧ ∀ j, j ∉ js → σ'[j]? = σ[j]?
theorem Off.refl (js : List Nat) (σ : L2.St) : Off js σ σ := ⟨rfl, fun _ _ => rfl⟩
theorem Off.trans {js : List Nat} {σ1 σ2 σ3 : L2.St} (a : Off js σ1 σ2) (b : Off js σ2 σ3) : Off js σ1 σ3 := ⟨b.1.trans a.1, fun j h => (b.2 j h).trans (a.2 j h)⟩
theorem Off.mono {js ks : List Nat} {σ1 σ2 : L2.St} (a : Off js σ1 σ2) (h : ∀ j ∈ js, j ∈ ks) : Off ks σ1 σ2 := ⟨a.1, fun j q => a.2 j fun z => q (h j z)⟩
theorem Off.set (σ : L2.St) (i : Nat) (o : Option V) : Off [i] σ (σ.set i o) := ⟨List.length_set, fun j h => List.getElem?_set_ne (by simpa using fun e => h (by simp [e]))⟩
def tDg (K : PySem.W.Frag) (Z : ZX) (js : List Nat) (g : DG) : TG := fun v σ H Q => ∃ B F n env d, SOk B K Z F H n σ env ∧ Hold K F v d ∧ g d env fun e => ∀ σ', SOk B K Z F H n σ' e → Off js σ σ' → Q σ' H
def tDgs (K : PySem.W.Frag) (Z : ZX) (js : List Nat) (g : DGs) : TGs := fun vs σ H Q => ∃ B F n env ds, SOk B K Z F H n σ env ∧ HoldAll K F vs ds ∧ g ds env fun e => ∀ σ', SOk B K Z F H n σ' e → Off js σ σ' → Q σ' H
structure PGd (X : Cx) (Z : ZX) (tg : Expr) (js : List Nat) (g : DG) : Prop where
  mono : ∀ d env Q Q', (∀ e, Q e → Q' e) → g d env Q → g d env Q'
  run : PG X tg (tDg X.K Z js g)
structure PGsd (X : Cx) (Z : ZX) (tg : List Expr) (js : List Nat) (g : DGs) : Prop where
  mono : ∀ d env Q Q', (∀ e, Q e → Q' e) → g d env Q → g d env Q'
  run : PGs X tg (tDgs X.K Z js g)
theorem PG_imp {X : Cx} {e : Expr} {t t' : TG} (h : PG X e t) (i : ∀ v σ H Q, t' v σ H Q → t v σ H Q) : PG X e t' := ⟨fun pins s σ H v u Q I r q => h.run pins s σ H v u Q I r (i _ _ _ _ q)⟩
theorem PGs_imp {X : Cx} {e : List Expr} {t t' : TGs} (h : PGs X e t) (i : ∀ v σ H Q, t' v σ H Q → t v σ H Q) : PGs X e t' := ⟨fun pins s σ H v u Q I r q => h.run pins s σ H v u Q I r (i _ _ _ _ q)⟩
def gN (i : Nat) : DG := fun d env Q => okSet env i ∧ Q (env.set i (.d d))
def gsNil : DGs := fun ds env Q => match ds with
  | [] => Q env
  | _ :: _ => False
def gsCons (g : DG) (gs : DGs) : DGs := fun ds env Q => match ds with
  | [] => False
  | d :: ds => g d env fun e => gs ds e Q
def gT (n : Nat) (gs : DGs) : DG := fun d env Q => match d with
  | .tup xs => xs.length = n ∧ gs xs env Q
  | .ktup xs => xs.length = n ∧ gs xs env Q
  | _ => False
section
variable {X : Cx} {Z : ZX} {pos : Pos}
theorem pgN {i : Nat} {x : Str} (hN : X.N.Nodup) (hi : X.N[i]? = some x) (hx : Loc X.env.scope x) (hf : X.fn x = true ∨ X.env.scope.names.lookup x = some .local := by first | exact .inl rfl | exact .inr rfl | assumption) : PGd X Z (.Name x pos) [i] (gN i) :=
  ⟨fun d env Q Q' q h => ⟨h.1, q _ h.2⟩, PG_imp (pg_name hN hi hx hf) fun v σ H Q ⟨B, F, n, env, d, S, hd, h⟩ => h.2 _ (S.store (Res.dat hd) i (okSet_of h.1)) (Off.set _ _ _)⟩
theorem pgsNil : PGsd X Z [] [] gsNil := ⟨fun ds env Q Q' q h => by
    cases ds with
    | nil => exact q _ h
    | cons _ _ => exact h, PGs_imp pgs_nil fun vs σ H Q ⟨B, F, n, env, ds, S, hd, h⟩ => by
    cases hd with
    | nil => exact ⟨rfl, h _ S (Off.refl _ _)⟩
    | cons _ _ => exact h.elim⟩
theorem pgsCons {e : Expr} {es : List Expr} {js ks : List Nat} {g : DG} {gs : DGs} (h1 : PGd X Z e js g) (h2 : PGsd X Z es ks gs) (hs : (assignEach (e :: es) X.env).map (·.2) = assign e X.env :: (assignEach es X.env).map (·.2) := by rfl) : PGsd X Z (e :: es) (js ++ ks) (gsCons g gs) := by
  refine ⟨fun ds env Q Q' q h => ?_, PGs_imp (pgs_cons h1.run h2.run hs) fun vs σ H Q ⟨B, F, n, env, ds, S, hd, h⟩ => ?_⟩
  · cases ds with
    | nil => exact h
    | cons d ds => exact h1.mono _ _ _ _ (fun e => h2.mono _ _ _ _ q) h
  · cases hd with
    | nil => exact h.elim
    | cons a t => exact ⟨_, _, rfl, B, F, n, env, _, S, a, h1.mono _ _ _ _ (fun e h' σ' S' o1 => ⟨B, F, n, e, _, S', t, h2.mono _ _ _ _ (fun e2 q σ2 S2 o2 => q σ2 S2 ((o1.mono fun j hj => List.mem_append_left _ hj).trans (o2.mono fun j hj => List.mem_append_right _ hj))) h'⟩) h⟩
theorem pgT {es : List Expr} {k : Nat} {n : Nat} {js : List Nat} {gs : DGs} (h : PGsd X Z es js gs) (hc : X.calm = true := by rfl) (hn : (assignEach es X.env).length = n := by rfl) (hst : (assignEach es X.env).findIdx? (·.1) = none := by rfl) : PGd X Z (.Tuple es k pos) js (gT n gs) := by
  refine ⟨fun d env Q Q' q g => ?_, PG_imp (pg_tup hc h.run hn hst) fun v σ H Q ⟨B, F, m, env, d, S, hd, g⟩ => ?_⟩
  · cases d <;> first | exact ⟨g.1, h.mono _ _ _ _ q g.2⟩ | exact g
  · cases hd with
    | tup ha hx => exact ⟨_, _, rfl, SqT.of (S.same _ _ ha), by rw [hx.length]; exact g.1, B, F, m, env, _, S, hx, g.2⟩
    | ktup h1 h2 h3 h4 h5 hx => exact ⟨_, _, rfl, .inr ⟨_, _, _, h1, h2, h3, h4, h5⟩, by rw [hx.length]; exact g.1, B, F, m, env, _, S, hx, g.2⟩
    | _ => exact g.elim
end
/-- target = e -/
def wAsg (f : DD) (g : DG) : WS := fun D env => f env fun d e => g d e D.nx
theorem psAsg {X : Cx} {Z : ZX} {tg e : Expr} {pos : Pos} {c : Nat} {f : DD} {js : List Nat} {g : DG} (he : PEd X Z e c f) (hg : PGd X Z tg js g) (hs : swapsWithSole [tg] e pos.line X.env = pure false := by rfl) (hw : swappedStores [tg] e X.env = pure none := by rfl)
    (h1 : (assignEach [tg] X.env).map (·.2) = [assign tg X.env] := by rfl) : PSd X Z (.Assign [tg] e pos) c (wAsg f g) := by
  refine ⟨fun D D' env l h => he.mono _ _ _ (fun d e => hg.mono _ _ _ _ l.nx) h, PS_imp (ps_asg he.run hg.run hs hw h1) fun D σ H ⟨B, F, n, env, hn, S, h⟩ => ?_⟩
  exact bindD he.mono hn S h fun d e v H1 F1 g1 S1 x1 hv => ⟨B, F1, n + c, e, d, S1, hv, hg.mono _ _ _ _ (fun e' h' σ' S' _ => h' σ' H1 F1 S' x1) g1⟩

/-! ### a, b = x, y -/
def wPar (i j : Nat) (fa fb : DE) : WS := fun D env => fa env fun r e1 => fb e1 fun r2 e2 => (okSet e2 i ∧ okSet (e2.set i r) j) ∧ D.nx ((e2.set i r).set j r2)
theorem psPar {X : Cx} {i j : Nat} {x y : Str} {a b : Expr} {ca cb : Nat} {fa fb : DE} {px py pt pos : Pos} {kt k2 pt2} (hN : X.N.Nodup) (hi : X.N[i]? = some x) (hj : X.N[j]? = some y) (hij : i ≠ j)
    (hx : X.env.scope.names.lookup x = some .local) (hy : X.env.scope.names.lookup y = some .local) (ha : PEc X Z a ca fa) (hb : PEc X Z b cb fb)
    (hw : swappedStores [.Tuple [.Name x px, .Name y py] kt pt] (.Tuple [a, b] k2 pt2) X.env = pure (some [x, y]))
    (hc : X.calm = true := by rfl)
    (hs : swapsWithSole [.Tuple [.Name x px, .Name y py] kt pt] (.Tuple [a, b] k2 pt2) pos.line X.env = pure false := by rfl)
    (h1 : starEach [a, b] X.env = (false, eval a X.env) :: starEach [b] X.env := by rfl) (h2 : starEach [b] X.env = (false, eval b X.env) :: starEach [] X.env := by rfl) :
    PSd X Z (.Assign [.Tuple [.Name x px, .Name y py] kt pt] (.Tuple [a, b] k2 pt2) pos) (ca + cb) (wPar i j fa fb) := by
  refine ⟨fun D D' env l h => ha.mono _ _ _ (fun r e => hb.mono _ _ _ fun r2 e2 g => ⟨g.1, l.nx _ g.2⟩) h, PS_imp (ps_par hc hN hi hj hij hx hy (pa_cons ha.run (pa_cons hb.run pa_nil h2) h1) hw hs) fun D σ H ⟨B, F, n, env, hn, S, h⟩ => ?_⟩
  refine bindC ha.mono (by omega) S h fun r e1 v H1 F1 g1 S1 x1 hv => ?_
  refine bindC hb.mono (by omega) S1.reb g1 fun r2 e2 u H2 F2 g2 T2 x2 hu => ?_
  have S2 := S1.unreb T2 rfl x2 (by omega)
  have hv2 := hv.wait S1 T2 x2 (Nat.le_add_right _ _)
  refine ⟨v, u, rfl, ?_⟩
  rw [Nat.add_assoc] at S2 hv2 hu
  have ne := (hv.apart (hv.kept S1 T2) hu).symm
  have hu' := hu.unreb S1
  have S3 := S2.store hv2 i (okSet_of g2.1.1)
  exact g2.2 _ H2 F2 (S3.store (hu'.stored ne) j (okSet_of g2.1.2)) (x1.trans x2)
end DL
set_option maxRecDepth 100000
set_option maxHeartbeats 4000000
namespace DL
open PySem PySem.Spec PyProof.Rows L2

/-! ### what is walked -/
def LINE : Nat := 16777216
structure LenOk (K : PySem.W.Frag) (H : Hp) : Prop where
  seq : ∀ a xs, SqL K H a xs ∨ SqT K H a xs → xs.length ≤ LINE
  dk : ∀ a kvs, Rd H a (.dK kvs) → kvs.length ≤ LINE
  dt : ∀ a kvs, Rd H a (.dT kvs) → kvs.length ≤ LINE
theorem line_eq : sizeLine = LINE := sizeLine_eq
theorem Inv_lenOk {X : Cx} {pins : List (Addr × Obj)} {σ : L2.St} {H : Hp} {s : Shared} (I : Inv X pins σ H s) : LenOk X.K H := by
  refine ⟨fun a xs h => ?_, fun a kvs h => ?_, fun a kvs h => ?_⟩
  · rw [← line_eq]
    rcases h with h | h
    · obtain ⟨_, _, _, z⟩ := I.list h; exact z
    · obtain ⟨_, _, _, z⟩ := I.tuple h; exact z
  · rw [← line_eq]
    exact (dk_rd I.hok h).1
  · rw [← line_eq]
    exact (dt_rd I.hok h).1
theorem PI_imp {X : Cx} {tg e : Expr} {t t' : TI} (h : PI X tg e t) (i : ∀ σ H R, t' σ H R → t σ H fun J H' => LenOk X.K H' → R J H') : PI X tg e t' := by
  refine ⟨fun pins s σ H R I q => ?_⟩
  refine thn (h.run pins s σ H _ I (i _ _ _ q)) fun v s1 h1 => thn h1 fun itv s2 h2 => ?_
  obtain ⟨it, fp, tn, J, H', e1, I', T, t0, f0, r⟩ := h2
  exact ⟨it, fp, tn, J, H', e1, I', T, t0, f0, r (Inv_lenOk I')⟩
/-- what is locked -/
def Lks (L : List (Addr × Obj × HO)) (F : Hp) : Prop := ∀ p ∈ L, F p.1 = some (.frz p.2.1 p.2.2)
/-- n turns over data; a turn may make a new tuple of data -/
structure WalkD (K : PySem.W.Frag) (L : List (Addr × Obj × HO)) (F : Hp) (J : It) (ds : List DV) : Prop where
  len : ds.length ≤ LINE
  goes : ∀ i H F', Ext F F' → Lks L F' → Same F' H → i < ds.length → J.go i H
  stops : ∀ H F', Ext F F' → Lks L F' → Same F' H → J.stop ds.length H
  yields : ∀ i H x H' F', Ext F F' → Lks L F' → Same F' H → i < ds.length → J.yld i H x H' → ∃ d, ds[i]? = some d ∧
    ((H' = H ∧ Hold K F' x d) ∨ ∃ T vs xs, x = .ref T ∧ H T = none ∧ H' = upd H T (.tup vs) ∧ d = .tup xs ∧ HoldAll K F' vs xs)
abbrev DI := List Cell → (List DV → List Cell → Prop) → Prop
def tDi (K : PySem.W.Frag) (Z : ZX) (c : Nat) (f : DI) : TI := fun σ H R => ∃ B F n env, n + c ≤ Z.M ∧ SOk B K Z F H n σ env ∧ f env fun ds e => ∀ J H' F', SOk B K Z F' H' (n + c) σ e → Ext F F' → WalkD K B.lk F' J ds → R J H'
structure PId (X : Cx) (Z : ZX) (tg e : Expr) (c : Nat) (f : DI) : Prop where
  mono : MonoC f
  run : PI X tg e (tDi X.K Z c f)
section
variable {B : Base} {K : PySem.W.Frag} {Z : ZX} {F H : Hp} {n m : Nat} {σ : L2.St} {env : List Cell}
/-- what a turn yields, in the state -/
theorem WalkD.item {J : It} {ds : List DV} {F0 : Hp} (w : WalkD K B.lk F0 J ds) (x : Ext F0 F) (S : SOk B K Z F H n σ env) {i : Nat} (hi : i < ds.length) {v : V} {H' : Hp} (y : J.yld i H v H') :
    ∃ d F', ds[i]? = some d ∧ SOk B K Z F' H' n σ env ∧ Ext F F' ∧ Hold K F' v d ∧ Same H H' ∧ ∀ a, (H a).isSome = true → F' a = F a := by
  obtain ⟨d, e, h | ⟨T, vs, xs, rfl, hT, rfl, rfl, hx⟩⟩ := w.yields i H v H' F x S.lk S.same hi y
  · obtain ⟨rfl, h⟩ := h
    exact ⟨d, F, e, S, Ext.refl _, h, Same.refl _, fun _ _ => rfl⟩
  · obtain ⟨S', s⟩ := S.alloc (o := .tup vs) hT
    exact ⟨_, _, e, S', Ext.of s, .tup upd_same (hx.mono (Ext.of s)), same_upd hT, fun a ha => upd_ne (by rintro rfl; rw [hT] at ha; cases ha)⟩
theorem HoldAll.getD {vs : List V} {ds : List DV} (h : HoldAll K F vs ds) {i : Nat} {x : V} (e : vs[i]? = some x) : ∃ d, ds[i]? = some d ∧ Hold K F x d := h.get e
theorem walkL {L : List (Addr × Obj × HO)} {a : Addr} {vs : List V} {ds : List DV} (ha : SqL K F a vs) (hx : HoldAll K F vs ds) (hl : vs.length ≤ LINE) : WalkD K L F (Itl K a) ds where
  len := by rw [← hx.length]; exact hl
  goes := fun i H F' x _ s hi => ⟨vs, vs[i]'(by rw [hx.length]; exact hi), sqL_mono (Ext.of s) (sqL_mono x ha), by simp [hx.length, hi]⟩
  stops := fun H F' x _ s => ⟨vs, sqL_mono (Ext.of s) (sqL_mono x ha), by rw [hx.length]; exact Nat.le_refl _⟩
  yields := fun i H v H' F' x _ s hi y => by
    obtain ⟨rfl, q⟩ := y
    have e := q vs (sqL_mono (Ext.of s) (sqL_mono x ha))
    obtain ⟨d, e2, h⟩ := hx.get e
    exact ⟨d, e2, .inl ⟨rfl, h.mono x⟩⟩
theorem walkT {L : List (Addr × Obj × HO)} {a : Addr} {vs : List V} {ds : List DV} (ha : SqT K F a vs) (hx : HoldAll K F vs ds) (hl : vs.length ≤ LINE) : WalkD K L F (Itt K a) ds where
  len := by rw [← hx.length]; exact hl
  goes := fun i H F' x _ s hi => ⟨vs, vs[i]'(by rw [hx.length]; exact hi), sqT_mono (Ext.of s) (sqT_mono x ha), by simp [hx.length, hi]⟩
  stops := fun H F' x _ s => ⟨vs, sqT_mono (Ext.of s) (sqT_mono x ha), by rw [hx.length]; exact Nat.le_refl _⟩
  yields := fun i H v H' F' x _ s hi y => by
    obtain ⟨rfl, q⟩ := y
    have e := q vs (sqT_mono (Ext.of s) (sqT_mono x ha))
    obtain ⟨d, e2, h⟩ := hx.get e
    exact ⟨d, e2, .inl ⟨rfl, h.mono x⟩⟩
/-- lo, lo + 1, .., n of them -/
def ramp (lo : Int) (n : Nat) : List DV := (List.range n).map fun i => .int (lo + (i : Nat))
theorem ramp_len (lo : Int) (n : Nat) : (ramp lo n).length = n := by simp [ramp]
theorem ramp_get (lo : Int) (n i : Nat) (h : i < n) : (ramp lo n)[i]? = some (.int (lo + (i : Nat))) := by simp [ramp, h]
theorem walkR {L : List (Addr × Obj × HO)} {lo : Int} {k : Nat} (hk : k ≤ LINE) : WalkD K L F (Itr lo k) (ramp lo k) where
  len := by rw [ramp_len]; exact hk
  goes := fun i H F' x _ s hi => by rw [ramp_len] at hi; exact hi
  stops := fun H F' x _ s => by rw [ramp_len]; exact Nat.le_refl k
  yields := fun i H v H' F' x _ s hi y => by
    rw [ramp_len] at hi
    obtain ⟨rfl, rfl⟩ := y
    exact ⟨_, ramp_get lo k i hi, .inl ⟨rfl, .int _⟩⟩
end
/-- a list or a tuple -/
def iSeq (K : PySem.W.Frag) (tl : TE) : TI := fun σ H R => tl σ H fun x H1 => ∃ a, x = .ref a ∧ (((∃ xs, SqL K H1 a xs) ∧ R (Itl K a) H1) ∨ ((∃ xs, SqT K H1 a xs) ∧ R (Itt K a) H1))
theorem pi_seq {X : Cx} {tg l : Expr} {tl : TE} (hl : PE X l tl) : PI X tg l (iSeq X.K tl) where
  run := fun pins s σ H R I h => thn (hl.run pins s σ H _ I h) fun u s1 z => by
    obtain ⟨x, H1, J, rel, a, rfl, q⟩ := z
    obtain rfl : u = .ref a := rel
    have new : ∀ b ∈ [s1.heap.objs.size], H1 b = none := fun b hb => by
      rw [List.mem_singleton.mp hb]
      exact J.hok.fresh (Nat.le_refl _)
    have put := fun (o : Obj) => J.kept (h' := s1.heap.push o) (t' := s1.toks) fun b u => Heap.get?_push_of_some o
    have own := fun b (hb : b ∈ [s1.heap.objs.size]) => J.fpOk (Nat.le_of_eq (List.mem_singleton.mp hb).symm) (new b hb)
    rcases q with ⟨⟨xs, e⟩, q⟩ | ⟨⟨xs, e⟩, q⟩
    · obtain ⟨its, _, at_, _⟩ := J.list e
      exact wpAny_pyIter_list at_.isList ⟨_, [_], _, _, H1, rfl, put _, turn_list a _, ⟨_, Heap.get?_push_size _ rfl, rfl, rfl⟩, own, q⟩
    · obtain ⟨its, _, at_, _⟩ := J.tuple e
      exact wpAny_pyIter_tuple (items := its.toArray) at_ ⟨_, [_], _, _, H1, rfl, put _, turn_tuple a _, ⟨_, Heap.get?_push_size _ rfl, rfl, rfl⟩, own, q⟩
def dItems : DV → Option (List DV)
  | .lst xs => some xs
  | .klst xs => some xs
  | .tup xs => some xs
  | .ktup xs => some xs
  | _ => none
def iData (f : DD) : DI := fun env Q => f env fun d e => match dItems d with
  | some xs => Q xs e
  | none => False
section
variable {X : Cx} {Z : ZX} {tg e : Expr} {c : Nat}
theorem piSeq {f : DD} (h : PEd X Z e c f) : PId X Z tg e c (iData f) := by
  refine ⟨fun env Q Q' q g => h.mono _ _ _ (fun d e g => ?_) g, PI_imp (pi_seq h.run) fun σ H R ⟨B, F, n, env, hn, S, g⟩ => bindD h.mono hn S g fun d e v H1 F1 h1 S1 x1 hv => ?_⟩
  · cases z : dItems d with
    | none => rw [z] at g; exact g.elim
    | some xs => rw [z] at g; exact q _ _ g
  · cases hv with
    | lst ha hx => exact ⟨_, rfl, .inl ⟨⟨_, SqL.of (S1.same _ _ ha)⟩, fun L => h1 _ H1 F1 S1 x1 (walkL (SqL.of ha) hx (L.seq _ _ (.inl (SqL.of (S1.same _ _ ha)))))⟩⟩
    | klst ha hx => exact ⟨_, rfl, .inl ⟨⟨_, sqL_mono (Ext.of S1.same) ha⟩, fun L => h1 _ H1 F1 S1 x1 (walkL ha hx (L.seq _ _ (.inl (sqL_mono (Ext.of S1.same) ha))))⟩⟩
    | tup ha hx =>
      have ht := SqT.of (K := X.K) ha
      exact ⟨_, rfl, .inr ⟨⟨_, sqT_mono (Ext.of S1.same) ht⟩, fun L => h1 _ H1 F1 S1 x1 (walkT ht hx (L.seq _ _ (.inr (sqT_mono (Ext.of S1.same) ht))))⟩⟩
    | ktup z1 z2 z3 z4 z5 hx =>
      have ht : SqT X.K F1 _ _ := .inr ⟨_, _, _, z1, z2, z3, z4, z5⟩
      exact ⟨_, rfl, .inr ⟨⟨_, sqT_mono (Ext.of S1.same) ht⟩, fun L => h1 _ H1 F1 S1 x1 (walkT ht hx (L.seq _ _ (.inr (sqT_mono (Ext.of S1.same) ht))))⟩⟩
    | _ => exact h1.elim
def iR1 (f : DD) : DI := fun env Q => f env fun d e => match d with
  | .int j => (-4611686018427387904 ≤ j ∧ j ≤ 16777216) ∧ Q (ramp 0 j.toNat) e
  | _ => False
theorem piRange1 {a : Expr} {f : DD} {p pos : Pos} (hg : Gl X "range") (hm : X.mg "range" = none) (h : PEd X Z a c f) (hs : starEach [a] X.env = [(false, eval a X.env)] := by rfl) (hs2 : starEach [a] X.env = (false, eval a X.env) :: starEach [] X.env := by rfl) :
    PId X Z tg (.Call (.Name "range" p) [a] [] pos) c (iR1 f) := by
  refine ⟨fun env Q Q' q g => h.mono _ _ _ (fun d e g => ?_) g, PI_imp (pi_range1 hg hm (pa_cons h.run pa_nil hs2) hs) fun σ H R ⟨B, F, n, env, hn, S, g⟩ => bindD h.mono hn S g fun d e v H1 F1 h1 S1 x1 hv => ?_⟩
  · cases d <;> first | exact ⟨g.1, q _ _ g.2⟩ | exact g
  · cases hv with
    | int j => exact ⟨j, rfl, by have := h1.1; omega, by have := h1.1; omega, fun _ => h1.2 _ H1 F1 S1 x1 (walkR (by have := h1.1; unfold LINE; omega))⟩
    | _ => exact h1.elim
def iR2 (f g : DD) : DI := fun env Q => f env fun d e => g e fun d2 e2 => match d, d2 with
  | .int i, .int j => (-4611686018427387904 ≤ i ∧ i < 4611686018427387904 ∧ -4611686018427387904 ≤ j ∧ j < 4611686018427387904 ∧ j - i ≤ 16777216) ∧ Q (ramp i (j - i).toNat) e2
  | _, _ => False
end

/-! ### for -/
def goFor (g : DG) (w : WS) (D : EndsD) : List DV → List Cell → Prop
  | [], env => D.nx env
  | d :: ds, env => g d env fun e => w { D with nx := goFor g w D ds, ct := goFor g w D ds, bk := D.nx } e
def wFor (f : DI) (g : DG) (w : WS) : WS := fun D env => f env fun ds e => goFor g w D ds e
section
variable {X : Cx} {Z : ZX} {tg it : Expr} {body : List Stmt} {ci cb : Nat} {f : DI} {js : List Nat} {g : DG} {w : WS} {pos : Pos}
theorem goFor_mono (hg : ∀ d env Q Q', (∀ e, Q e → Q' e) → g d env Q → g d env Q') (hw : MonoS w) {D D' : EndsD} (l : D.le D') : ∀ ds env, goFor g w D ds env → goFor g w D' ds env
  | [], env, h => l.nx _ h
  | d :: ds, env, h => hg _ _ _ _ (fun e q => hw { D with nx := goFor g w D ds, ct := goFor g w D ds, bk := D.nx } _ _ ⟨goFor_mono hg hw l ds, l.rt, l.nx, goFor_mono hg hw l ds⟩ q) h
theorem psFor (hp : PassesOwn (model X.prog X.w) X.A X.env X.xe) (hi : PId X Z tg it ci f) (hg : PGd X Z tg js g) (hb : PSSd X Z body cb w) (hc : X.calm = true := by rfl) (hs : ∀ x, foldedSetIterable it X.env x = pure x := by intro _; rfl) :
    PSd X Z (.For tg it body [] pos) (ci + LINE * cb) (wFor f g w) := by
  refine ⟨fun D D' env l h => hi.mono _ _ _ (fun ds e => goFor_mono hg.mono hb.mono l ds e) h, PS_imp (ps_for hp hc hi.run hg.run hb.run hs) fun D σ H ⟨B, F, n, env, hn, S, h⟩ => ?_⟩
  refine ⟨B, F, n, env, by omega, S, hi.mono _ _ _ (fun ds e go J H1 F1 S1 x1 wk => ?_) h⟩
  have lenL := wk.len
  refine ⟨fun i m σ' H' => m = ds.length - i ∧ i ≤ ds.length ∧ ∃ F' env', SOk B X.K Z F' H' (n + ci + i * cb) σ' env' ∧ Ext F1 F' ∧ goFor g w (endD B X.K Z F (n + (ci + LINE * cb)) D) (ds.drop i) env',
    ⟨ds.length, by simp, Nat.zero_le _, F1, e, by rw [Nat.zero_mul]; exact S1, Ext.refl _, go⟩, ?_⟩
  rintro i m σ2 H2 ⟨rfl, hi2, F2, env2, S2, x2, go2⟩
  have hmul : i * cb ≤ LINE * cb := Nat.mul_le_mul_right _ (Nat.le_trans hi2 lenL)
  by_cases hlt : i < ds.length
  · have hmul2 : (i + 1) * cb ≤ LINE * cb := Nat.mul_le_mul_right _ (Nat.le_trans hlt lenL)
    rw [Nat.succ_mul] at hmul2
    refine .inr ⟨wk.goes i H2 F2 x2 S2.lk S2.same hlt, fun σ' H' => i + 1 ≤ ds.length ∧ ∃ F' env', SOk B X.K Z F' H' (n + ci + (i + 1) * cb) σ' env' ∧ Ext F1 F' ∧ goFor g w (endD B X.K Z F (n + (ci + LINE * cb)) D) (ds.drop (i + 1)) env', fun σ' H' q => ⟨ds.length - (i + 1), by omega, rfl, q⟩, fun v H3 y => ?_⟩
    obtain ⟨d, F3, ed, S3, x3, hd, _, _⟩ := wk.item x2 S2 hlt y
    have edr : ds.drop i = d :: ds.drop (i + 1) := by
      rw [List.drop_eq_getElem_cons hlt]
      congr 1
      exact (List.getElem?_eq_some_iff.mp ed).2
    rw [edr] at go2
    refine ⟨B, F3, _, env2, d, S3, hd, hg.mono _ _ _ _ (fun e4 q σ4 S4 _ => ?_) go2⟩
    refine bindS (c := cb) hb.mono (by omega) S4 (x1.trans (x2.trans x3)) q ⟨fun e5 q5 σ5 H5 F5 S5 x5 => ?_, fun r e5 q5 v5 σ5 H5 F5 S5 x5 z5 => ?_, fun e5 q5 σ5 H5 F5 S5 x5 => ?_, fun e5 q5 σ5 H5 F5 S5 x5 => ?_⟩
    · exact ⟨hlt, F5, e5, by rw [Nat.succ_mul, ← Nat.add_assoc]; exact S5, (x2.trans x3).trans x5, q5⟩
    · exact q5 v5 σ5 H5 F5 (S5.mono (by omega)) ((x1.trans (x2.trans x3)).trans x5) (z5.mono (by omega))
    · exact q5 σ5 H5 F5 (S5.mono (by omega)) ((x1.trans (x2.trans x3)).trans x5)
    · exact ⟨hlt, F5, e5, by rw [Nat.succ_mul, ← Nat.add_assoc]; exact S5, (x2.trans x3).trans x5, q5⟩
  · have ei : i = ds.length := by omega
    subst ei
    rw [List.drop_length] at go2
    exact .inl ⟨wk.stops H2 F2 x2 S2.lk S2.same, go2 σ2 H2 F2 (S2.mono (by omega)) (x1.trans x2)⟩
end

/-! ### comprehensions -/
def wipeD (env : List Cell) : List Nat → List Cell
  | [] => env
  | v :: vs => (wipeD env vs).set v .un
/-- the block's own slots as they were ahead of it: they own nothing -/
def noOwn (env : List Cell) (vs : List Nat) : Prop := ∀ v ∈ vs, ∀ c, env[v]? = some c → c.own = false
def backD (env env' : List Cell) : List Nat → List Cell
  | [] => env'
  | v :: vs => (backD env env' vs).set v (env.getD v .un)
def goLc (vs : List Nat) (g : DG) (t : DT) (f : DD) (Q : List DV → List Cell → Prop) : List DV → List DV → List Cell → Prop
  | [], acc, env => Q acc env
  | d :: ds, acc, env => g d (wipeD env vs) fun e2 => t e2 fun k e3 => if k = true then f e3 fun y e4 => goLc vs g t f Q ds (acc ++ [y]) e4 else goLc vs g t f Q ds acc e3
def dLc (vs : List Nat) (i : DI) (g : DG) (t : DT) (f : DD) : DE := fun env Q => i env fun ds e => noOwn e vs ∧ goLc vs g t f (fun acc e' => Q (.o false (.l acc)) (backD e e' vs)) ds [] e
section
variable {B : Base} {K : PySem.W.Frag} {Z : ZX} {F F' H : Hp} {n n' : Nat} {σ : L2.St} {env : List Cell}
theorem wipeD_len : ∀ (vs : List Nat), (wipeD env vs).length = env.length
  | [] => rfl
  | v :: vs => by unfold wipeD; rw [List.length_set, wipeD_len vs]
theorem wipeD_get : ∀ {vs : List Nat} {i : Nat} {c : Cell}, (wipeD env vs)[i]? = some c → (i ∈ vs ∧ c = .un) ∨ (i ∉ vs ∧ env[i]? = some c)
  | [], i, c, h => .inr ⟨by simp, h⟩
  | v :: vs, i, c, h => by
    unfold wipeD at h
    rcases getElem?_set_cases h with ⟨rfl, rfl, _⟩ | ⟨ne, h⟩
    · exact .inl ⟨List.mem_cons_self, rfl⟩
    · rcases wipeD_get h with ⟨h1, h2⟩ | ⟨h1, h2⟩
      · exact .inl ⟨List.mem_cons_of_mem _ h1, h2⟩
      · exact .inr ⟨by simp only [List.mem_cons, not_or]; exact ⟨fun e => ne e.symm, h1⟩, h2⟩
theorem wipe_off : ∀ (vs : List Nat), Off vs σ (wipe σ vs)
  | [] => Off.refl _ _
  | v :: vs => ((wipe_off vs).mono fun j h => List.mem_cons_of_mem _ h).trans ((Off.set _ v none).mono fun j h => by
      have e : j = v := by simpa using h
      rw [e]
      exact List.mem_cons_self)
theorem wipe_none : ∀ {vs : List Nat} {j : Nat}, j ∈ vs → j < σ.length → (wipe σ vs)[j]? = some none
  | v :: vs, j, h, hl => by
    unfold wipe
    by_cases e : v = j
    · subst e
      exact List.getElem?_set_self (by rw [wipe_length]; exact hl)
    · rw [List.getElem?_set_ne e]
      exact wipe_none ((List.mem_cons.mp h).resolve_left fun z => e z.symm) hl
/-- only the slots of vs differ: wiped they are the same -/
theorem wipe_eq {σ' : L2.St} {vs : List Nat} (o : Off vs (wipe σ vs) σ') : wipe σ' vs = wipe σ vs := by
  refine List.ext_getElem? fun j => ?_
  have hl : σ'.length = σ.length := by rw [o.1, wipe_length]
  by_cases hj : j ∈ vs
  · by_cases h : j < σ.length
    · rw [wipe_none hj (by rw [hl]; exact h), wipe_none hj h]
    · rw [List.getElem?_eq_none (by rw [wipe_length]; omega), List.getElem?_eq_none (by rw [wipe_length]; omega)]
  · rw [(wipe_off vs).2 j hj, o.2 j hj]
theorem SOk.nobs (S : SOk B K Z F H n σ env) {vs : List Nat} (hb : noOwn env vs) : ∀ p ∈ B.bs, p.1 ∉ vs := fun p hp z => by
  obtain ⟨⟨oc, e1⟩, _⟩ := S.bs p hp
  have := hb _ z _ e1
  cases this
theorem SOk.wipe (S : SOk B K Z F H n σ env) {vs : List Nat} (hb : ∀ p ∈ B.bs, p.1 ∉ vs) : SOk B K Z F H n (wipe σ vs) (wipeD env vs) where
  same := S.same
  len := by rw [wipe_length, wipeD_len]; exact S.len
  at_ := fun i c e => by
    rcases wipeD_get e with ⟨h1, rfl⟩ | ⟨h1, h2⟩
    · have hl : i < (wipeD env vs).length := (List.getElem?_eq_some_iff.mp e).1
      rw [wipeD_len, ← S.len] at hl
      exact ⟨none, wipe_none h1 hl, trivial⟩
    · obtain ⟨o, e1, h⟩ := S.at_ i c h2
      exact ⟨o, by rw [(wipe_off vs).2 i h1]; exact e1, h⟩
  sep := fun i j b b' c c' a a' x ei ej si sj xi xj => by
    rcases wipeD_get ei with ⟨_, z⟩ | ⟨h1, h2⟩
    · cases z
    · rcases wipeD_get ej with ⟨_, z⟩ | ⟨h3, h4⟩
      · cases z
      · rw [(wipe_off vs).2 i h1] at si
        rw [(wipe_off vs).2 j h3] at sj
        exact S.sep i j b b' c c' a a' x h2 h4 si sj xi xj
  fr := S.fr
  ff := S.ff
  bd := S.bd
  lb := S.lb
  lk := S.lk
  bs := fun p hp => by
    obtain ⟨⟨oc, e1⟩, e2⟩ := S.bs p hp
    have hn : p.1 ∉ vs := hb p hp
    have w : ∀ {vs : List Nat}, p.1 ∉ vs → (wipeD env vs)[p.1]? = env[p.1]? := by
      intro vs
      induction vs with
      | nil => intro _; rfl
      | cons v vs ih =>
        intro h
        simp only [List.mem_cons, not_or] at h
        unfold wipeD
        rw [List.getElem?_set_ne (fun e => h.1 e.symm)]
        exact ih h.2
    exact ⟨⟨oc, by rw [w hn]; exact e1⟩, by rw [(wipe_off vs).2 _ hn]; exact e2⟩
  dom := S.dom
  tb := S.tb
  lnk := S.lnk
theorem backD_len {env' : List Cell} : ∀ (vs : List Nat), (backD env env' vs).length = env'.length
  | [] => rfl
  | v :: vs => by unfold backD; rw [List.length_set, backD_len vs]
theorem backD_get {env' : List Cell} : ∀ {vs : List Nat} {i : Nat} {c : Cell}, (backD env env' vs)[i]? = some c → (i ∈ vs ∧ c = env.getD i .un) ∨ (i ∉ vs ∧ env'[i]? = some c)
  | [], i, c, h => .inr ⟨by simp, h⟩
  | v :: vs, i, c, h => by
    unfold backD at h
    rcases getElem?_set_cases h with ⟨rfl, rfl, _⟩ | ⟨ne, h⟩
    · exact .inl ⟨List.mem_cons_self, rfl⟩
    · rcases backD_get h with ⟨h1, h2⟩ | ⟨h1, h2⟩
      · exact .inl ⟨List.mem_cons_of_mem _ h1, h2⟩
      · exact .inr ⟨by simp only [List.mem_cons, not_or]; exact ⟨fun e => ne e.symm, h1⟩, h2⟩
theorem backD_off {env' : List Cell} : ∀ {vs : List Nat} {i : Nat}, i ∉ vs → (backD env env' vs)[i]? = env'[i]?
  | [], i, _ => rfl
  | v :: vs, i, h => by
    simp only [List.mem_cons, not_or] at h
    unfold backD
    rw [List.getElem?_set_ne (fun e => h.1 e.symm)]
    exact backD_off h.2
/-- behind the block -/
theorem SOk.unwipe {H' : Hp} {env' : List Cell} {Z' : ZX} (S : SOk B K Z F H n σ env) {vs : List Nat} (hb : noOwn env vs) (T : SOk B K Z' F' H' n' (L2.wipe σ vs) env') (hT : Z'.T = Z.T) (x : Ext F F') (hn : n ≤ n') : SOk B K Z F' H' n' σ (backD env env' vs) where
  same := T.same
  len := by rw [backD_len, ← T.len, wipe_length]
  at_ := fun i c e => by
    rcases backD_get e with ⟨h1, rfl⟩ | ⟨h1, h2⟩
    · have hl : i < (backD env env' vs).length := (List.getElem?_eq_some_iff.mp e).1
      rw [backD_len, ← T.len, wipe_length, S.len] at hl
      have q : env[i]? = some (env.getD i .un) := by simp [hl]
      obtain ⟨o, e1, h⟩ := S.at_ i _ q
      refine ⟨o, e1, h.mono x hn fun a b' c' _ ec => ?_⟩
      have ow : (Cell.o b' c').own = true := rfl
      rw [← ec, hb i h1 _ q] at ow
      cases ow
    · obtain ⟨o, e1, h⟩ := T.at_ i c h2
      exact ⟨o, by rw [(wipe_off vs).2 i h1] at e1; exact e1, h⟩
  sep := fun i j b b' c c' a a' x ei ej si sj xi xj => by
    have nope : ∀ {i : Nat} {b : Bool} {c : OC}, (backD env env' vs)[i]? = some (.o b c) → i ∉ vs ∧ env'[i]? = some (.o b c) := fun {i b c} e => by
      rcases backD_get e with ⟨h1, z⟩ | h
      · have hl : i < (backD env env' vs).length := (List.getElem?_eq_some_iff.mp e).1
        rw [backD_len, ← T.len, wipe_length, S.len] at hl
        have ow : (Cell.o b c).own = true := rfl
        rw [z, hb i h1 _ (by simp [hl])] at ow
        cases ow
      · exact h
    obtain ⟨h1, h2⟩ := nope ei
    obtain ⟨h3, h4⟩ := nope ej
    exact T.sep i j b b' c c' a a' x h2 h4 (by rw [(wipe_off vs).2 i h1]; exact si) (by rw [(wipe_off vs).2 j h3]; exact sj) xi xj
  fr := T.fr
  ff := T.ff
  bd := T.bd
  lb := T.lb
  lk := T.lk
  bs := fun p hp => by
    obtain ⟨⟨oc, e1⟩, e2⟩ := S.bs p hp
    have hn : p.1 ∉ vs := fun z => by
      have := hb _ z _ e1
      cases this
    obtain ⟨⟨oc', e3⟩, _⟩ := T.bs p hp
    exact ⟨⟨oc', by rw [backD_off hn]; exact e3⟩, e2⟩
  dom := T.dom
  tb := hT ▸ T.tb
  lnk := S.lnk.mono x hn
/-- an object that no slot and no data knows is written -/
theorem SOk.poke (S : SOk B K Z F H n σ env) {a : Addr} {o o0 : HO} (ha : H a = some o0) (p0 : plain o0 = true) (h0 : NewAt B a) (hF : F a = none) (hs : ∀ (i : Nat) (b' : Bool) (c' : OC) (a' : Addr), env[i]? = some (.o b' c') → σ[i]? = some (some (.ref a')) → a ∉ fp H a' c') : SOk B K Z F (upd H a o) n σ env where
  same := fun b u e => by rw [upd_ne (by rintro rfl; rw [hF] at e; cases e)]; exact S.same _ _ e
  len := S.len
  at_ := (S.toCore.step (F' := F) (H' := upd H a o) (Ext.refl _) (Nat.le_refl _) fun i b c a' ei si x hx => ⟨upd_ne (by rintro rfl; exact hs i b c a' ei si hx), (S.toCore.ownAt ei si).1 x hx⟩).1
  sep := (S.toCore.step (F' := F) (H' := upd H a o) (Ext.refl _) (Nat.le_refl _) fun i b c a' ei si x hx => ⟨upd_ne (by rintro rfl; exact hs i b c a' ei si hx), (S.toCore.ownAt ei si).1 x hx⟩).2
  fr := fun b u e hb hl => by rw [upd_ne (by rintro rfl; exact h0.elim (fun h0 => by rw [h0] at e; cases e) hl)]; exact S.fr b u e hb hl
  ff := S.ff
  bd := S.bd
  lb := S.lb
  lk := S.lk
  bs := S.bs
  dom := fun b e => by
    by_cases z : b = a
    · subst z; rw [upd_same]; rfl
    · rw [upd_ne z]; exact S.dom b e
  tb := tabs_keep S.tb fun b u e tc => by
    rw [upd_ne (by
      rintro rfl
      rw [ha] at e
      cases e
      exact plain_tab p0 tc)]
    exact e
  lnk := S.lnk
/-- no error is wanted within -/
abbrev ZX.calm (Z : ZX) : ZX := ⟨fun _ _ _ => False, fun _ _ _ => False, Z.T, Z.M, Z.ml, Z.hv⟩
theorem SOk.calm (S : SOk B K Z F H n σ env) : SOk B K Z.calm F H n σ env := ⟨S.toCore, S.lnk.1, fun _ _ _ _ _ _ _ _ _ _ _ _ _ _ z => z⟩
theorem backD_wipe {env' : List Cell} (vs : List Nat) : backD env (wipeD env' vs) vs = backD env env' vs := by
  have look : ∀ (us ws : List Nat) (l l' : List Cell), l.length = l'.length → (∀ j, j ∉ us → l[j]? = l'[j]?) → (∀ j ∈ us, j ∈ ws) → backD env l ws = backD env l' ws := by
    intro us ws l l' hl he hs
    refine List.ext_getElem? fun j => ?_
    by_cases hj : j ∈ ws
    · by_cases h : j < l.length
      · have q : ∀ (m : List Cell), m.length = l.length → ∀ {ws : List Nat}, j ∈ ws → (backD env m ws)[j]? = some (env.getD j .un) := by
          intro m hm ws
          induction ws with
          | nil => intro z; cases z
          | cons w ws ih =>
            intro z
            unfold backD
            by_cases e : w = j
            · subst e
              exact List.getElem?_set_self (by rw [backD_len, hm]; exact h)
            · rw [List.getElem?_set_ne e]
              exact ih ((List.mem_cons.mp z).resolve_left fun z => e z.symm)
        rw [q l rfl hj, q l' hl.symm hj]
      · rw [List.getElem?_eq_none (by rw [backD_len]; omega), List.getElem?_eq_none (by rw [backD_len]; omega)]
    · rw [backD_off hj, backD_off hj]
      exact he j fun z => hj (hs j z)
  refine look vs vs _ _ (wipeD_len vs) (fun j hj => ?_) fun _ h => h
  have w : ∀ {vs : List Nat}, j ∉ vs → (wipeD env' vs)[j]? = env'[j]? := by
    intro vs
    induction vs with
    | nil => intro _; rfl
    | cons v vs ih =>
      intro h
      simp only [List.mem_cons, not_or] at h
      unfold wipeD
      rw [List.getElem?_set_ne (fun e => h.1 e.symm)]
      exact ih h.2
  exact w hj
end
theorem lc_data {K : PySem.W.Frag} {vs js : List Nat} {g : DG} {t : DT} {f : DD} {ct ce : Nat} (mg : ∀ d env Q Q', (∀ e, Q e → Q' e) → g d env Q → g d env Q') (mt : MonoC t) (mf : MonoC f) (hjs : ∀ j ∈ js, j ∈ vs)
    {J : It} {ds : List DV} {B : Base} {F H1 : Hp} {n m : Nat} {σ : L2.St} {e : List Cell} (S : SOk B K Z F H1 n σ e) (wk : WalkD K B.lk F J ds) (hb : noOwn e vs) {P : List DV → List Cell → Prop} (go : goLc vs g t f P ds [] e)
    (hm : n + LINE * (ct + ce) ≤ m) (hM : m ≤ Z.M) {Q : VK}
    (fin : ∀ acc e' D H' F', P acc e' → SOk B K Z F' H' m σ (backD e e' vs) → Ext F F' → Res B K F' H' m σ (backD e e' vs) (.ref D) (.o false (.l acc)) → Q (.ref D) H') :
    ∀ D, H1 D = none → ∃ W : Nat → Nat → Hp → Prop, (∃ m, W 0 m (upd H1 D (.lst []))) ∧ ∀ i m H, W i m H →
      (J.stop i H ∧ Q (.ref D) H) ∨ (J.go i H ∧ ∃ Nx : Hp → Prop, (∀ H', Nx H' → ∃ m', m' < m ∧ W (i + 1) m' H') ∧ ∀ x H', J.yld i H x H' → tDg K Z.calm js g x (wipe σ vs) H' fun σ2 H2 => wipe σ2 vs = wipe σ vs ∧ tDt K Z.calm ct t σ2 H2 fun b H3 =>
        if b = true then tDd K Z.calm ce f σ2 H3 fun y H4 => ∃ acc, H4 D = some (.lst acc) ∧ acc.length < sizeLine ∧ Nx (upd H4 D (.lst (acc ++ [y]))) else Nx H3) := by
  intro D hD
  have h0 : B.H0 D = none := S.fresh0 hD
  have lenL := wk.len
  have nob := S.nobs hb
  let Inv := fun (i : Nat) (H : Hp) => i ≤ ds.length ∧ ∃ (F' : Hp) (env' : List Cell) (av : List V) (ad : List DV), SOk B K Z.calm F' H (n + i * (ct + ce)) (wipe σ vs) (wipeD env' vs) ∧ Ext F F' ∧ H D = some (.lst av) ∧ F' D = none ∧ HoldAll K F' av ad ∧ av.length ≤ i ∧
    (∀ (i : Nat) (b' : Bool) (c' : OC) (a' : Addr), (wipeD env' vs)[i]? = some (.o b' c') → (wipe σ vs)[i]? = some (some (.ref a')) → D ∉ fp H a' c') ∧ goLc vs g t f P (ds.drop i) ad env'
  have start : Inv 0 (upd H1 D (.lst [])) := by
    obtain ⟨S1, r1⟩ := new_lst S (vs := []) (xs := []) .nil hD
    refine ⟨Nat.zero_le _, F, e, [], [], by rw [Nat.zero_mul]; exact (S1.wipe nob).calm, Ext.refl _, upd_same, S.freshF hD, .nil, Nat.le_refl _, fun i b' c' a' ec ea => ?_, go⟩
    rcases wipeD_get ec with ⟨_, z⟩ | ⟨h1, h2⟩
    · cases z
    · rw [(wipe_off vs).2 i h1] at ea
      exact (r1.2.2 _ _ _ rfl rfl D (List.mem_singleton.mpr rfl)).1 i b' c' a' h2 ea
  refine ⟨fun i m H => m = ds.length - i ∧ Inv i H, ⟨_, rfl, start⟩, ?_⟩
  rintro i _ H ⟨rfl, hi, F2, env2, av, ad, S2, x2, hD2, hF2, ha2, hl2, no2, go2⟩
  have hmul : i * (ct + ce) ≤ LINE * (ct + ce) := Nat.mul_le_mul_right _ (Nat.le_trans hi lenL)
  by_cases hlt : i < ds.length
  · have hmul2 : (i + 1) * (ct + ce) ≤ LINE * (ct + ce) := Nat.mul_le_mul_right _ (Nat.le_trans hlt lenL)
    rw [Nat.succ_mul] at hmul2
    refine .inr ⟨wk.goes i H F2 x2 S2.lk S2.same hlt, Inv (i + 1), fun H' q => ⟨_, by omega, rfl, q⟩, fun v H3 y => ?_⟩
    obtain ⟨d, F3, ed, S3, x3, hd, s3, f3⟩ := wk.item x2 S2 hlt y
    have edr : ds.drop i = d :: ds.drop (i + 1) := by
      rw [List.drop_eq_getElem_cons hlt]
      congr 1
      exact (List.getElem?_eq_some_iff.mp ed).2
    rw [edr] at go2
    have hD3 := s3 _ _ hD2
    have hF3 : F3 D = none := (f3 D (by rw [hD2]; rfl)).trans hF2
    have no3 : ∀ (i : Nat) (b' : Bool) (c' : OC) (a' : Addr), (wipeD env2 vs)[i]? = some (.o b' c') → (wipe σ vs)[i]? = some (some (.ref a')) → D ∉ fp H3 a' c' := fun i b' c' a' e1 e2 z => by
      obtain ⟨q1, q2, _⟩ := S2.toCore.ownAt e1 e2
      have ef : fp H3 a' c' = fp H a' c' := fp_congr fun y hy => by
        obtain ⟨o, eo, _⟩ := q2.pl y hy
        rw [eo]
        exact s3 _ _ eo
      rw [ef] at z
      exact no2 i b' c' a' e1 e2 z
    -- what stays of the new list
    have keep : ∀ {F' H' : Hp} {k : Nat} {σ' : L2.St} {e' : List Cell}, SOk (reb B F3 H3 (wipe σ vs) (wipeD env2 vs)) K Z.calm F' H' k σ' e' → H' D = some (.lst av) ∧ F' D = none ∧ ∀ (i : Nat) (b' : Bool) (c' : OC) (a' : Addr), e'[i]? = some (.o b' c') → σ'[i]? = some (some (.ref a')) → D ∉ fp H' a' c' := fun {F' H' k σ' e'} T => by
      obtain ⟨⟨q1, q2⟩, q3⟩ := S3.aside T hD3 rfl (.inl h0) hF3 no3
      exact ⟨q1.trans hD3, q2, q3⟩
    refine ⟨_, F3, _, wipeD env2 vs, d, S3.reb, hd, mg _ _ _ _ (fun e4 q σ4 T4 o4 => ?_) go2⟩
    have ew : wipe σ4 vs = wipe σ vs := wipe_eq (o4.mono hjs)
    refine ⟨ew, bindT mt (by show _ ≤ Z.M; omega) T4 q fun b e5 H5 F5 q5 T5 x5 => ?_⟩
    -- the turn's end
    have done : ∀ {F' H' : Hp} {k : Nat} {e' : List Cell} {ad' : List DV} {av' : List V}, n + i * (ct + ce) ≤ k → k ≤ n + (i + 1) * (ct + ce) → SOk (reb B F3 H3 (wipe σ vs) (wipeD env2 vs)) K Z.calm F' H' k σ4 e' → Ext F3 F' → HoldAll K F' av' ad' → av'.length ≤ i + 1 → goLc vs g t f P (ds.drop (i + 1)) ad' e' →
        Inv (i + 1) (upd H' D (.lst av')) := fun {F' H' k e' ad' av'} hk0 hk T x' hh hlen gg => by
      obtain ⟨k1, k2, k3⟩ := keep T
      have U := ((S3.unreb T rfl x' hk0).poke (o := .lst av') k1 rfl (.inl h0) k2 k3).wipe (vs := vs) nob
      rw [ew] at U
      refine ⟨hlt, F', e', av', ad', U.mono hk, (x2.trans x3).trans x', upd_same, k2, hh, hlen, fun j b' c' a' ec ea => ?_, gg⟩
      rcases wipeD_get ec with ⟨_, z⟩ | ⟨h1, h2⟩
      · cases z
      · rw [← ew, (wipe_off vs).2 j h1] at ea
        have q := (S3.unreb T rfl x' hk0).toCore.ownAt h2 ea
        have ef : fp (upd H' D (.lst av')) a' c' = fp H' a' c' := fp_congr fun y hy => upd_ne (by rintro rfl; exact k3 j b' c' a' h2 ea hy)
        rw [ef]
        exact k3 j b' c' a' h2 ea
    cases b with
    | false =>
      rw [if_neg Bool.false_ne_true] at q5 ⊢
      obtain ⟨k1, k2, k3⟩ := keep T5
      have := done (by omega) (by rw [Nat.succ_mul]; omega) T5 x5 ((ha2.mono x3).mono x5) (by omega) q5
      rw [show upd H5 D (.lst av) = H5 from by
        funext b
        unfold upd
        split
        · rename_i z; rw [z]; exact k1.symm
        · rfl] at this
      exact this
    | true =>
      rw [if_pos rfl] at q5 ⊢
      refine bindD mf (by show _ ≤ Z.M; omega) T5 q5 fun yd e6 yv H6 F6 q6 T6 x6 hy => ?_
      obtain ⟨k1, k2, k3⟩ := keep T6
      refine ⟨av, k1, by rw [line_eq]; omega, ?_⟩
      exact done (by omega) (by rw [Nat.succ_mul]; omega) T6 (x5.trans x6) ((((ha2.mono x3).mono x5).mono x6).append (.one hy)) (by rw [List.length_append, List.length_singleton]; omega) q6
  · have ei : i = ds.length := by omega
    subst ei
    rw [List.drop_length] at go2
    have U := S.unwipe hb S2 rfl x2 (by omega)
    rw [backD_wipe] at U
    refine .inl ⟨wk.stops H F2 x2 S2.lk S2.same, fin ad env2 D H F2 go2 (U.mono (by omega)) x2 (Res.mk (fun y hy => by cases List.mem_singleton.mp hy; exact hF2) ⟨av, hD2, ha2⟩ fun y hy => ⟨fun j b' c' a' ec ea => ?_, by cases List.mem_singleton.mp hy; exact .inl h0⟩)⟩
    cases List.mem_singleton.mp hy
    rcases backD_get ec with ⟨h1, z⟩ | ⟨h1, h2⟩
    · have hl : j < (backD e env2 vs).length := (List.getElem?_eq_some_iff.mp ec).1
      have hl2 : j < e.length := by
        have := U.len
        rw [S.len] at this
        omega
      have ow : (Cell.o b' c').own = true := rfl
      rw [z, hb j h1 _ (by simp [hl2])] at ow
      cases ow
    · have h3 : (wipeD env2 vs)[j]? = some (.o b' c') := by
        have w : ∀ {vs : List Nat}, j ∉ vs → (wipeD env2 vs)[j]? = env2[j]? := by
          intro vs
          induction vs with
          | nil => intro _; rfl
          | cons v vs ih =>
            intro h
            simp only [List.mem_cons, not_or] at h
            unfold wipeD
            rw [List.getElem?_set_ne (fun e => h.1 e.symm)]
            exact ih h.2
        rw [w h1]
        exact h2
      rw [← (wipe_off vs).2 j h1] at ea
      exact no2 j b' c' a' h3 ea
theorem goLc_mono {vs : List Nat} {g : DG} {t : DT} {f : DD} (mg : ∀ d env Q Q', (∀ e, Q e → Q' e) → g d env Q → g d env Q') (mt : MonoC t) (mf : MonoC f) {Q Q' : List DV → List Cell → Prop} (q : ∀ a e, Q a e → Q' a e) :
    ∀ ds acc env, goLc vs g t f Q ds acc env → goLc vs g t f Q' ds acc env
  | [], _, _, h => q _ _ h
  | d :: ds, acc, env, h => mg _ _ _ _ (fun e2 h2 => mt _ _ _ (fun k e3 h3 => by
      cases k with
      | true => exact mf _ _ _ (fun y e4 h4 => goLc_mono mg mt mf q ds _ _ h4) h3
      | false => exact goLc_mono mg mt mf q ds _ _ h3) h2) h
/-- the tests of a comprehension -/
structure PTsd (X : Cx) (Z : ZX) (ifs : List Expr) (c : Nat) (t : DT) : Prop where
  mono : MonoC t
  run : PTs X ifs (tDt X.K Z c t)
def dYes : DT := fun env Q => Q true env
theorem ptsNil {X : Cx} {Z : ZX} : PTsd X Z [] 0 dYes := ⟨fun _ _ _ q h => q _ _ h, ⟨fun pins s σ H Q I ⟨B, F, n, env, hn, S, h⟩ => pts_nil.run pins s σ H Q I (h H F S (Ext.refl _))⟩⟩
theorem ptsOne {X : Cx} {Z : ZX} {e : Expr} {c : Nat} {t : DT} (h : PTd X Z e c t) : PTsd X Z [e] c t := ⟨h.mono, pts_one h.run⟩
section
variable {X : Cx} {Z : ZX} {elt tg iter : Expr} {ifs : List Expr} {scope : Scope} {own : List (Str × Nat)} {pos : Pos} {ci ct ce : Nat} {i : DI} {js : List Nat} {g : DG} {t : DT} {f : DD}
theorem mono_lc {vs : List Nat} (mi : MonoC i) (mg : ∀ d env Q Q', (∀ e, Q e → Q' e) → g d env Q → g d env Q') (mt : MonoC t) (mf : MonoC f) : MonoC (dLc vs i g t f) := fun env Q Q' q h =>
  mi _ _ _ (fun ds e ⟨h1, h2⟩ => ⟨h1, goLc_mono mg mt mf (fun a e => q _ _) ds [] e h2⟩) h
theorem lc_imp (own : List (Str × Nat)) (hi : MonoC i) (mg : ∀ d env Q Q', (∀ e, Q e → Q' e) → g d env Q → g d env Q') (mt : MonoC t) (mf : MonoC f) (hjs : ∀ j ∈ js, j ∈ own.map (·.2)) {K : PySem.W.Frag} {Z : ZX} (σ : L2.St) (H : Hp) (Q : VK) (h : tDc K Z (ci + LINE * (ct + ce)) (dLc (own.map (·.2)) i g t f) σ H Q) :
    tLc (tDi K Z ci i) (tDg K Z.calm js g) (tDt K Z.calm ct t) (tDd K Z.calm ce f) (own.map (·.2)) σ H Q := by
  obtain ⟨B, F, n, env, hn, S, h⟩ := h
  refine ⟨B, F, n, env, by omega, S, hi _ _ _ (fun ds e ⟨hb, go⟩ J H1 F1 S1 x1 wk => ?_) h⟩
  exact lc_data mg mt mf hjs S1 wk hb go (m := n + (ci + LINE * (ct + ce))) (by omega) hn fun acc e' D H' F' p S' x' r => p (.ref D) H' F' S' (x1.trans x') r
theorem pcLc (hN : X.N.Nodup) (hi : PId X Z tg iter ci i) (ok : BlkOk X.N X.env.scope scope own)
    (hg : ∀ (s : Shared) (H : Hp) (C : Addr) (cl : List (Str × Addr)) (fp : List Addr), PGd (X.blk s H scope (compEnvC scope cl C X.env) fp) Z.calm tg js g)
    (ht : ∀ (s : Shared) (H : Hp) (C : Addr) (cl : List (Str × Addr)) (fp : List Addr), PTsd (X.blk s H scope (compEnvC scope cl C X.env) fp) Z.calm ifs ct t)
    (he : ∀ (s : Shared) (H : Hp) (C : Addr) (cl : List (Str × Addr)) (fp : List Addr), PEd (X.blk s H scope (compEnvC scope cl C X.env) fp) Z.calm elt ce f) (s0 : Shared) (hjs : ∀ j ∈ js, j ∈ own.map (·.2))
    (hc : X.calm = true := by rfl) (hs : ∀ x, foldedSetIterable iter X.env x = pure x := by intro _; rfl) :
    PEc X Z (.ListComp elt [⟨tg, iter, ifs, 0⟩] scope pos) (ci + LINE * (ct + ce)) (dLc (own.map (·.2)) i g t f) :=
  have a := hg s0 (fun _ => none) 0 [] []
  have b := ht s0 (fun _ => none) 0 [] []
  have c := he s0 (fun _ => none) 0 [] []
  ⟨mono_lc hi.mono a.mono b.mono c.mono, PE_imp (pe_lc hc hN hi.run ok (fun s H C cl fp => (hg s H C cl fp).run) (fun s H C cl fp => (ht s H C cl fp).run) (fun s H C cl fp => (he s H C cl fp).run) hs)
    (lc_imp own hi.mono a.mono b.mono c.mono hjs)⟩
/-- name = [..] -/
theorem psSetLc {k : Nat} {y : Str} {py spos : Pos} (hN : X.N.Nodup) (hy : X.N[k]? = some y) (hyl : X.env.scope.names.lookup y = some .local)
    (hsw : swapsWith (.ListComp elt [⟨tg, iter, ifs, 0⟩] scope pos) (some (.Name y py)) spos.line X.env = pure true) (hi : PId X Z tg iter ci i) (ok : BlkOk X.N X.env.scope scope own)
    (hg : ∀ (s : Shared) (H : Hp) (C : Addr) (cl : List (Str × Addr)) (fp : List Addr), PGd (X.blk s H scope (compEnvC scope cl C X.env) fp) Z.calm tg js g)
    (ht : ∀ (s : Shared) (H : Hp) (C : Addr) (cl : List (Str × Addr)) (fp : List Addr), PTsd (X.blk s H scope (compEnvC scope cl C X.env) fp) Z.calm ifs ct t)
    (he : ∀ (s : Shared) (H : Hp) (C : Addr) (cl : List (Str × Addr)) (fp : List Addr), PEd (X.blk s H scope (compEnvC scope cl C X.env) fp) Z.calm elt ce f) (s0 : Shared) (hjs : ∀ j ∈ js, j ∈ own.map (·.2))
    (hc : X.calm = true := by rfl) (hs : ∀ x, foldedSetIterable iter X.env x = pure x := by intro _; rfl) :
    PSd X Z (.Assign [.Name y py] (.ListComp elt [⟨tg, iter, ifs, 0⟩] scope pos) spos) (ci + LINE * (ct + ce)) (wSet k (dLc (own.map (·.2)) i g t f)) := by
  have a := hg s0 (fun _ => none) 0 [] []
  have b := ht s0 (fun _ => none) 0 [] []
  have c := he s0 (fun _ => none) 0 [] []
  have mo := mono_lc (vs := own.map (·.2)) hi.mono a.mono b.mono c.mono
  refine ⟨fun D D' env l h => mo _ _ _ (fun r e g => ⟨g.1, l.nx _ g.2⟩) h, PS_imp (ps_setLc (wi := tDi X.K Z ci i) (g := tDg X.K Z.calm js g) (tt := tDt X.K Z.calm ct t) (te := tDd X.K Z.calm ce f) hc hN hy hyl hsw hi.run ok (fun s H C cl fp => (hg s H C cl fp).run) (fun s H C cl fp => (ht s H C cl fp).run) (fun s H C cl fp => (he s H C cl fp).run) hs) fun D σ H ⟨B, F, n, env, hn, S, h⟩ => ?_⟩
  refine lc_imp own hi.mono a.mono b.mono c.mono hjs σ H _ ?_
  exact bindC mo hn S h fun r e v H1 F1 h1 S1 x1 hr => h1.2 _ H1 F1 (S1.store hr k (okSet_of h1.1)) x1
end
end DL
set_option maxRecDepth 100000
set_option maxHeartbeats 4000000
namespace DL
open PySem PySem.Spec PyProof.Rows L2

/-! ### what a def promises, by data -/
/-- the cells handed in (an owned one: handed in to be changed), and what is wanted of the result and of the changed ones -/
abbrev Con := List Cell → (Cell → List OC → Prop) → (Addr → List (Str × DV) → List OC → Prop) → Prop
def ParOk (K : PySem.W.Frag) (F H : Hp) (n : Nat) : List V → List Cell → Prop
  | [], [] => True
  | v :: vs, c :: cs => (match c with
      | .un => True
      | .d x => Hold K F v x
      | .o _ oc => ∃ a, v = .ref a ∧ (∀ x ∈ fp H a oc, F x = none) ∧ OCOk K F H n a oc) ∧ ParOk K F H n vs cs
  | _, _ => False
def borA : List V → List Cell → List Addr
  | .ref a :: vs, .o _ _ :: cs => a :: borA vs cs
  | _ :: vs, _ :: cs => borA vs cs
  | _, _ => []
/-- all the addresses handed in to be changed -/
def borF (H : Hp) : List V → List Cell → List Addr
  | .ref a :: vs, .o _ c :: cs => fp H a c ++ borF H vs cs
  | _ :: vs, _ :: cs => borF H vs cs
  | _, _ => []
def ownIx (k : Nat) : List Cell → List Nat
  | [] => []
  | .o _ _ :: cs => k :: ownIx (k + 1) cs
  | _ :: cs => ownIx (k + 1) cs
def bsOf (k : Nat) : List V → List Cell → List (Nat × Addr)
  | .ref a :: vs, .o _ _ :: cs => (k, a) :: bsOf (k + 1) vs cs
  | _ :: vs, _ :: cs => bsOf (k + 1) vs cs
  | _, _ => []
/-- the cells of a def's start: what is owned is borrowed -/
def parC : List Cell → List Cell
  | [] => []
  | .o _ c :: cs => .o true c :: parC cs
  | c :: cs => c :: parC cs
def borsAt (env : List Cell) : List Nat → List OC
  | [] => []
  | i :: is => match env[i]? with
    | some (.o _ c) => c :: borsAt env is
    | _ => borsAt env is
structure Frm (K : PySem.W.Frag) (T : List (Addr × Str)) (F H : Hp) (bs bf : List Addr) (m : Nat) (os : List OC) (H' F' : Hp) : Prop where
  ext : Ext F F'
  same : Same F' H'
  fr : ∀ a o, H a = some o → a ∉ bf → Stay o (H' a)
  ff : ∀ a, (H a).isSome = true → a ∉ bf → TF H F F' a
  dom : ∀ a, (H a).isSome = true → (H' a).isSome = true
  tb : LamX.Tabs T H'
  bor : Paired (fun a c => (∀ x ∈ fp H' a c, F' x = none ∧ (x ∈ bf ∨ H x = none)) ∧ OCOk K F' H' m a c) bs os
  sep : ∀ (i j : Nat) (a a' : Addr) (c c' : OC) (x : Addr), bs[i]? = some a → os[i]? = some c → bs[j]? = some a' → os[j]? = some c' → x ∈ fp H' a c → x ∈ fp H' a' c' → i = j
structure PostD (K : PySem.W.Frag) (T : List (Addr × Str)) (F H : Hp) (bs bf : List Addr) (m : Nat) (r : Cell) (os : List OC) (v : V) (H' F' : Hp) : Prop extends Frm K T F H bs bf m os H' F' where
  res : match r with
    | .un => True
    | .d x => Hold K F' v x
    | .o b oc => b = false ∧ ∃ a, v = .ref a ∧ (∀ x ∈ fp H' a oc, (H x = none ∧ F' x = none) ∧ ∀ (i : Nat) (a' : Addr) (c' : OC), bs[i]? = some a' → os[i]? = some c' → x ∉ fp H' a' c') ∧ OCOk K F' H' m a oc
/-- behind an error -/
structure PostX (K : PySem.W.Frag) (T : List (Addr × Str)) (F H : Hp) (bs bf : List Addr) (m : Nat) (os : List OC) (fs : List (Str × DV)) (d : Addr) (H' F' : Hp) : Prop extends Frm K T F H bs bf m os H' F' where
  exc : ExcAt K F' H' d fs
  new : H d = none
def SpD (K : PySem.W.Frag) (T : List (Addr × Str)) (c : Nat) (con : Con) : Sp := fun vs H Q E => ∃ F n cs M, (n + c ≤ M ∧ M ≤ LIM) ∧ Same F H ∧ LamX.Tabs T H ∧ ParOk K F H n vs cs ∧ (borF H vs cs).Nodup ∧
  con cs (fun r os => ∀ v H' F', PostD K T F H (borA vs cs) (borF H vs cs) (n + c) r os v H' F' → Q v H') (fun C fs os => ∀ d m H' F', n ≤ m → m ≤ M → PostX K T F H (borA vs cs) (borF H vs cs) m os fs d H' F' → E (.ref C) (some d) H')
theorem ParOk.len {K : PySem.W.Frag} {F H : Hp} {n : Nat} : ∀ {vs : List V} {cs : List Cell}, ParOk K F H n vs cs → vs.length = cs.length
  | [], [], _ => rfl
  | v :: vs, c :: cs, h => by rw [List.length_cons, List.length_cons, ParOk.len h.2]
  | [], _ :: _, h => h.elim
  | _ :: _, [], h => h.elim
theorem ParOk.get {K : PySem.W.Frag} {F H : Hp} {n : Nat} : ∀ {vs : List V} {cs : List Cell} {i : Nat} {c : Cell}, ParOk K F H n vs cs → (parC cs)[i]? = some c → ∃ v, vs[i]? = some v ∧ (match c with
      | .un => True
      | .d x => Hold K F v x
      | .o b oc => b = true ∧ ∃ a, v = .ref a ∧ (∀ x ∈ fp H a oc, F x = none) ∧ OCOk K F H n a oc ∧ ∀ x ∈ fp H a oc, x ∈ borF H vs cs)
  | [], [], i, c, _, e => by simp [parC] at e
  | [], _ :: _, _, _, h, _ => h.elim
  | _ :: _, [], _, _, h, _ => h.elim
  | v :: vs, c0 :: cs, i, c, h, e => by
    have mem : ∀ {a : Addr}, a ∈ borF H vs cs → a ∈ borF H (v :: vs) (c0 :: cs) := fun {a} hm => by
      cases v <;> cases c0 <;> first | exact hm | exact List.mem_append_right _ hm
    cases i with
    | zero =>
      refine ⟨v, rfl, ?_⟩
      cases c0 with
      | un => cases e; trivial
      | d x => cases e; exact h.1
      | o b oc =>
        cases e
        obtain ⟨a, rfl, h1, h2⟩ := h.1
        exact ⟨rfl, a, rfl, h1, h2, fun x hx => List.mem_append_left _ hx⟩
    | succ i =>
      have e' : (parC cs)[i]? = some c := by
        cases c0 <;> simpa [parC] using e
      obtain ⟨v', e1, q⟩ := ParOk.get (i := i) h.2 e'
      refine ⟨v', by simpa using e1, ?_⟩
      cases c with
      | un => trivial
      | d x => exact q
      | o b oc =>
        obtain ⟨q0, a, q1, q2, q3, q4⟩ := q
        exact ⟨q0, a, q1, q2, q3, fun x hx => mem (q4 x hx)⟩
/-- what is handed in stands apart -/
theorem borF_sep {H : Hp} {x : Addr} : ∀ {vs : List V} {cs : List Cell} {i j : Nat} {b b' : Bool} {c c' : OC} {a a' : Addr}, (borF H vs cs).Nodup → (parC cs)[i]? = some (.o b c) → (parC cs)[j]? = some (.o b' c') → vs[i]? = some (.ref a) → vs[j]? = some (.ref a') → x ∈ fp H a c → x ∈ fp H a' c' → i = j := by
  have inn : ∀ {vs : List V} {cs : List Cell} {i : Nat} {b : Bool} {c : OC} {a : Addr}, (parC cs)[i]? = some (.o b c) → vs[i]? = some (.ref a) → x ∈ fp H a c → x ∈ borF H vs cs := by
    intro vs
    induction vs with
    | nil => intro cs i b c a _ h; simp at h
    | cons v vs ih =>
      intro cs i b c a e1 e2 hx
      cases cs with
      | nil => simp [parC] at e1
      | cons c0 cs =>
        cases i with
        | zero =>
          have ev : v = .ref a := by simpa using e2
          subst ev
          cases c0 <;> simp [parC] at e1
          obtain ⟨_, rfl⟩ := e1
          exact List.mem_append_left _ hx
        | succ i =>
          have q := ih (cs := cs) (i := i) (b := b) (c := c) (a := a) (by cases c0 <;> simpa [parC] using e1) (by simpa using e2) hx
          cases v <;> cases c0 <;> first | exact q | exact List.mem_append_right _ q
  intro vs
  induction vs with
  | nil => intro cs i j b b' c c' a a' _ _ _ h; simp at h
  | cons v vs ih =>
    intro cs i j b b' c c' a a' nd ei ej si sj xi xj
    cases cs with
    | nil => simp [parC] at ei
    | cons c0 cs =>
      have nd2 : (borF H vs cs).Nodup := by
        cases v <;> cases c0 <;> first | exact nd | exact (List.nodup_append.mp nd).2.1
      have head : ∀ {b : Bool} {c : OC} {a : Addr} {k : Nat} {b' : Bool} {c' : OC} {a' : Addr}, (parC (c0 :: cs))[0]? = some (.o b c) → (v :: vs)[0]? = some (.ref a) → x ∈ fp H a c → (parC cs)[k]? = some (.o b' c') → vs[k]? = some (.ref a') → x ∈ fp H a' c' → False := fun {b c a k b' c' a'} e1 e2 hx e3 e4 hy => by
        have ev : v = .ref a := by simpa using e2
        subst ev
        cases c0 <;> simp [parC] at e1
        obtain ⟨_, rfl⟩ := e1
        exact (List.nodup_append.mp nd).2.2 x hx x (inn e3 e4 hy) rfl
      have tl : ∀ {k : Nat} {d : Cell}, (parC (c0 :: cs))[k + 1]? = some d → (parC cs)[k]? = some d := fun {k d} e => by cases c0 <;> simpa [parC] using e
      cases i with
      | zero =>
        cases j with
        | zero => rfl
        | succ j => exact (head ei si xi (tl ej) (by simpa using sj) xj).elim
      | succ i =>
        cases j with
        | zero => exact (head ej sj xj (tl ei) (by simpa using si) xi).elim
        | succ j => rw [ih nd2 (tl ei) (tl ej) (by simpa using si) (by simpa using sj) xi xj]
theorem borF_in {K : PySem.W.Frag} {F H : Hp} {n : Nat} : ∀ {vs : List V} {cs : List Cell}, ParOk K F H n vs cs → ∀ x ∈ borF H vs cs, ∃ o, H x = some o ∧ plain o = true
  | [], [], _, x, hx => by cases hx
  | [], _ :: _, h, _, _ => h.elim
  | _ :: _, [], h, _, _ => h.elim
  | v :: vs, c :: cs, h, x, hx => by
    cases c with
    | un => cases v <;> exact borF_in h.2 x hx
    | d y => cases v <;> exact borF_in h.2 x hx
    | o b oc =>
      obtain ⟨a, rfl, h1, h2⟩ := h.1
      rcases List.mem_append.mp hx with hx | hx
      · exact h2.pl x hx
      · exact borF_in h.2 x hx
theorem ownIx_ge : ∀ (cs : List Cell) (k : Nat), ∀ i ∈ ownIx k cs, k ≤ i
  | [], k, i, h => by cases h
  | .o _ _ :: cs, k, i, h => by
    rcases List.mem_cons.mp h with rfl | h
    · exact Nat.le_refl _
    · have := ownIx_ge cs (k + 1) i h
      omega
  | .un :: cs, k, i, h => by
    have := ownIx_ge cs (k + 1) i h
    omega
  | .d _ :: cs, k, i, h => by
    have := ownIx_ge cs (k + 1) i h
    omega
theorem ownIx_nodup : ∀ (cs : List Cell) (k : Nat), (ownIx k cs).Nodup
  | [], k => List.nodup_nil
  | .o _ _ :: cs, k => List.nodup_cons.mpr ⟨fun h => by have := ownIx_ge cs (k + 1) k h; omega, ownIx_nodup cs (k + 1)⟩
  | .un :: cs, k => ownIx_nodup cs (k + 1)
  | .d _ :: cs, k => ownIx_nodup cs (k + 1)
theorem parC_len (cs : List Cell) : (parC cs).length = cs.length := by
  induction cs with
  | nil => rfl
  | cons c cs ih => cases c <;> simp [parC, ih]
theorem bsOf_spec {K : PySem.W.Frag} {F H : Hp} {n : Nat} : ∀ {vs : List V} {cs : List Cell} (k : Nat), ParOk K F H n vs cs →
    (∀ p ∈ bsOf k vs cs, k ≤ p.1 ∧ (∃ oc, (parC cs)[p.1 - k]? = some (.o true oc)) ∧ vs[p.1 - k]? = some (.ref p.2)) ∧ (bsOf k vs cs).map (·.2) = borA vs cs ∧ (bsOf k vs cs).map (·.1) = ownIx k cs
  | [], [], k, _ => ⟨fun p h => (by cases h), rfl, rfl⟩
  | [], _ :: _, _, h => h.elim
  | _ :: _, [], _, h => h.elim
  | v :: vs, c :: cs, k, h => by
    obtain ⟨i1, i2, i3⟩ := bsOf_spec (k + 1) h.2
    have step : ∀ p ∈ bsOf (k + 1) vs cs, k ≤ p.1 ∧ (∃ oc, (parC (c :: cs))[p.1 - k]? = some (.o true oc)) ∧ (v :: vs)[p.1 - k]? = some (.ref p.2) := fun p hp => by
      obtain ⟨h1, ⟨oc, h2⟩, h3⟩ := i1 p hp
      have e : p.1 - k = (p.1 - (k + 1)) + 1 := by omega
      refine ⟨by omega, ⟨oc, ?_⟩, ?_⟩
      · rw [e]
        cases c <;> simpa [parC] using h2
      · rw [e]
        simpa using h3
    cases c with
    | un => cases v <;> exact ⟨step, i2, i3⟩
    | d x => cases v <;> exact ⟨step, i2, i3⟩
    | o b oc =>
      obtain ⟨a, rfl, _⟩ := h.1
      refine ⟨fun p hp => ?_, by rw [bsOf, borA, List.map_cons, i2], by rw [bsOf, ownIx, List.map_cons, i3]⟩
      rcases List.mem_cons.mp hp with rfl | hp
      · exact ⟨Nat.le_refl _, ⟨oc, by simp [parC]⟩, by simp⟩
      · exact step p hp
/-- a def's body by data: w from the parameters' cells -/
def runD (N : Nat) (w : WS) (cs : List Cell) (P : Cell → List OC → Prop) : Prop :=
  w { nx := fun e => P (.d .non) (borsAt e (ownIx 0 cs)), rt := fun r e => P r (borsAt e (ownIx 0 cs)) } (parC cs ++ List.replicate (N - cs.length) .un)
section
variable {P : Program} {w : World} {K : PySem.W.Frag} {mg : Str → Option Value} {base : Heap}
theorem runD_ok {X : Cx} {Z : ZX} {N : Nat} {sts : List Stmt} {c : Nat} {wd : WS} (hb : PSSd X Z sts c wd) {F H : Hp} {n : Nat} {cs : List Cell} {vs : List V} (hn : n + c ≤ Z.M) (s : Same F H) (ht : LamX.Tabs Z.T H) (hp : ParOk X.K F H n vs cs) (nd : (borF H vs cs).Nodup) (hN : vs.length ≤ N)
    {Q : VK} (h : runD N wd cs fun r os => ∀ v H' F', PostD X.K Z.T F H (borA vs cs) (borF H vs cs) (n + c) r os v H' F' → Q v H')
    (hv : ∀ p ∈ Z.hv, Hold X.K F p.1 p.2)
    (hG : ∀ C fs e, Z.G C fs e → ∀ d m H' F', n ≤ m → m ≤ Z.M → PostX X.K Z.T F H (borA vs cs) (borF H vs cs) m (borsAt e (ownIx 0 cs)) fs d H' F' → Z.E (.ref C) (some d) H') :
    tDs X.K Z c wd { nx := fun _ H' => Q .non H', rt := Q } (vs.map some ++ List.replicate (N - vs.length) none) H := by
  obtain ⟨b1, b2, b3⟩ := bsOf_spec 0 hp
  have hl := hp.len
  let B : Base := ⟨H, F, borF H vs cs, [], [], bsOf 0 vs cs⟩
  have getσ : ∀ {i : Nat} {v : V}, vs[i]? = some v → (vs.map some ++ List.replicate (N - vs.length) none)[i]? = some (some v) := fun {i v} e => by
    have hi : i < vs.length := (List.getElem?_eq_some_iff.mp e).1
    rw [List.getElem?_append_left (by simpa using hi), List.getElem?_map, e]
    rfl
  have getE : ∀ {i : Nat} {c : Cell}, (parC cs ++ List.replicate (N - cs.length) .un)[i]? = some c → (parC cs)[i]? = some c ∨ (vs.length ≤ i ∧ i < N ∧ c = .un) := fun {i c} e => by
    by_cases hi : i < cs.length
    · rw [List.getElem?_append_left (by rw [parC_len]; exact hi)] at e
      exact .inl e
    · rw [List.getElem?_append_right (by rw [parC_len]; omega), List.getElem?_replicate, parC_len] at e
      split at e
      · cases e
        exact .inr ⟨by omega, by omega, rfl⟩
      · cases e
  have S0 : Core B X.K Z.T F H n (vs.map some ++ List.replicate (N - vs.length) none) (parC cs ++ List.replicate (N - cs.length) .un) := by
    refine ⟨s, by simp [parC_len, hl], fun i c e => ?_, fun i j b b' c c' a a' x ei ej si sj xi xj => ?_, fun a o e _ _ => .inl e, fun _ _ _ _ => .inl rfl, fun a ha => ?_, (fun a h => by cases h), (fun p hp => by cases hp), fun p hp => ?_, (fun _ h => h), ht⟩
    · rcases getE e with e | ⟨h1, h2, rfl⟩
      · obtain ⟨v, ev, q⟩ := hp.get e
        refine ⟨some v, getσ ev, ?_⟩
        cases c with
        | un => trivial
        | d x => exact ⟨v, rfl, q⟩
        | o b oc =>
          obtain ⟨rfl, a, rfl, q1, q2, q3⟩ := q
          exact ⟨a, rfl, q1, q2, fun _ => q3 a q2.root, fun x hx => .inl ⟨rfl, q3 x hx⟩⟩
      · refine ⟨none, ?_, trivial⟩
        rw [List.getElem?_append_right (by simpa using h1), List.getElem?_replicate, if_pos (by simp; omega)]
    · have gs : ∀ {i : Nat} {b : Bool} {c : OC} {a : Addr}, (parC cs ++ List.replicate (N - cs.length) .un)[i]? = some (.o b c) → (vs.map some ++ List.replicate (N - vs.length) none)[i]? = some (some (V.ref a)) → (parC cs)[i]? = some (.o b c) ∧ vs[i]? = some (V.ref a) := fun {i b c a} e se => by
        rcases getE e with e1 | ⟨_, _, z⟩
        · refine ⟨e1, ?_⟩
          have hi : i < vs.length := by
            have := (List.getElem?_eq_some_iff.mp e1).1
            rw [parC_len] at this
            omega
          rw [List.getElem?_append_left (by simpa using hi), List.getElem?_map] at se
          cases q : vs[i]? with
          | none => rw [q] at se; cases se
          | some u => rw [q] at se; cases se; rfl
        · cases z
      obtain ⟨p1, p2⟩ := gs ei si
      obtain ⟨p3, p4⟩ := gs ej sj
      exact borF_sep nd p1 p3 p2 p4 xi xj
    · obtain ⟨o, eo, _⟩ := borF_in hp a ha
      show (H a).isSome = true
      rw [eo]
      rfl
    · obtain ⟨_, ⟨oc, h2⟩, h3⟩ := b1 p hp
      rw [Nat.sub_zero] at h2 h3
      refine ⟨⟨oc, ?_⟩, getσ h3⟩
      rw [List.getElem?_append_left (List.getElem?_eq_some_iff.mp h2).1]
      exact h2
  -- what was borrowed, at any time
  have at1 : ∀ {F' H' : Hp} {m : Nat} {σ' : L2.St} {e : List Cell}, Core B X.K Z.T F' H' m σ' e → ∀ (l : List (Nat × Addr)), (∀ p ∈ l, p ∈ B.bs) → ∀ (i : Nat) (p : Nat × Addr), l[i]? = some p → ∃ c, (borsAt e (l.map (·.1)))[i]? = some c ∧ e[p.1]? = some (.o true c) ∧ σ'[p.1]? = some (some (.ref p.2)) := fun {F' H' m σ' e} T l => by
    induction l with
    | nil => intro _ i p h; simp at h
    | cons q l ih =>
      intro hl i p ep
      obtain ⟨⟨oc, e1⟩, e2⟩ := T.bs q (hl q List.mem_cons_self)
      rw [List.map_cons, borsAt, e1]
      cases i with
      | zero =>
        cases ep
        exact ⟨oc, rfl, e1, e2⟩
      | succ i =>
        obtain ⟨c, q1, q2⟩ := ih (fun q hq => hl q (List.mem_cons_of_mem _ hq)) i p (by simpa using ep)
        exact ⟨c, by simpa using q1, q2⟩
  have bors : ∀ {F' H' : Hp} {m : Nat} {σ' : L2.St} {e : List Cell}, Core B X.K Z.T F' H' m σ' e → Paired (fun a c_1 => (∀ x ∈ fp H' a c_1, F' x = none ∧ (x ∈ borF H vs cs ∨ H x = none)) ∧ OCOk X.K F' H' m a c_1) (borA vs cs) (borsAt e (ownIx 0 cs)) := fun {F' H' m σ' e} T => by
    have gen : ∀ (l : List (Nat × Addr)), (∀ p ∈ l, p ∈ B.bs) → Paired (fun a c_1 => (∀ x ∈ fp H' a c_1, F' x = none ∧ (x ∈ borF H vs cs ∨ H x = none)) ∧ OCOk X.K F' H' m a c_1) (l.map (·.2)) (borsAt e (l.map (·.1))) := by
      intro l
      induction l with
      | nil => intro _; exact .nil
      | cons p l ih =>
        intro hl
        obtain ⟨⟨oc, e1⟩, e2⟩ := T.bs p (hl p List.mem_cons_self)
        obtain ⟨q2, q3, _, q4⟩ := T.ownAt e1 e2
        rw [List.map_cons, List.map_cons, borsAt, e1]
        refine .cons ⟨fun x hx => ⟨q2 x hx, ?_⟩, q3⟩ (ih fun q hq => hl q (List.mem_cons_of_mem _ hq))
        rcases q4 x hx with y | y | y
        · exact .inl y.2
        · exact .inr y
        · cases y
    have := gen (bsOf 0 vs cs) fun _ h => h
    rwa [b2, b3] at this
  have seps : ∀ {F' H' : Hp} {m : Nat} {σ' : L2.St} {e : List Cell}, Core B X.K Z.T F' H' m σ' e → ∀ (i j : Nat) (a a' : Addr) (c c' : OC) (x : Addr), (borA vs cs)[i]? = some a → (borsAt e (ownIx 0 cs))[i]? = some c → (borA vs cs)[j]? = some a' → (borsAt e (ownIx 0 cs))[j]? = some c' → x ∈ fp H' a c → x ∈ fp H' a' c' → i = j := fun {F' H' m σ' e} T i j a a' c c' x h1 h2 h3 h4 xi xj => by
    rw [← b2, List.getElem?_map] at h1 h3
    rw [← b3] at h2 h4
    cases q : (bsOf 0 vs cs)[i]? with
    | none => rw [q] at h1; cases h1
    | some p =>
      cases q' : (bsOf 0 vs cs)[j]? with
      | none => rw [q'] at h3; cases h3
      | some p' =>
        rw [q] at h1
        rw [q'] at h3
        cases h1
        cases h3
        obtain ⟨c1, y1, y2, y3⟩ := at1 T _ (fun _ h => h) i p q
        obtain ⟨c2, z1, z2, z3⟩ := at1 T _ (fun _ h => h) j p' q'
        rw [h2] at y1
        rw [h4] at z1
        cases y1
        cases z1
        have e := T.sep p.1 p'.1 _ _ _ _ _ _ x y2 z2 y3 z3 xi xj
        have ndI := ownIx_nodup cs 0
        rw [← b3] at ndI
        have hi := (List.getElem?_eq_some_iff.mp q).1
        have hj := (List.getElem?_eq_some_iff.mp q').1
        exact (List.getElem_inj (h₀ := by rw [List.length_map]; exact hi) (h₁ := by rw [List.length_map]; exact hj) ndI).mp (by rw [List.getElem_map, List.getElem_map, (List.getElem?_eq_some_iff.mp q).2, (List.getElem?_eq_some_iff.mp q').2]; exact e)
  have frm : ∀ {F' H' : Hp} {m : Nat} {σ' : L2.St} {e : List Cell}, Core B X.K Z.T F' H' m σ' e → Ext F F' → Frm X.K Z.T F H (borA vs cs) (borF H vs cs) m (borsAt e (ownIx 0 cs)) H' F' := fun {F' H' m σ' e} T x =>
    ⟨x, T.same, fun a o ea na => T.fr a o ea na (by intro z; cases z), fun a ea na => T.ff a ea na (by intro z; cases z), T.dom, T.tb, bors T, seps T⟩
  have S : SOk B X.K Z F H n (vs.map some ++ List.replicate (N - vs.length) none) (parC cs ++ List.replicate (N - cs.length) .un) := by
    refine ⟨S0, hv, fun F' H' n' σ' e C d fs T x h1 h2 h3 h4 h5 => hG C fs e h5 d n' H' F' h1 h2 ⟨frm T x, h3, h4⟩⟩
  refine ⟨B, F, n, _, hn, S, hb.mono _ _ _ ?_ h⟩
  have post : ∀ {r : Cell} {e : List Cell} {v : V} {σ' : L2.St} {H' F' : Hp}, SOk B X.K Z F' H' (n + c) σ' e → Ext F F' → Res B X.K F' H' (n + c) σ' e v r → PostD X.K Z.T F H (borA vs cs) (borF H vs cs) (n + c) r (borsAt e (ownIx 0 cs)) v H' F' := fun {r e v σ' H' F'} T x hr => by
    refine ⟨frm T.toCore x, ?_⟩
    cases r with
    | un => trivial
    | d x => obtain ⟨v', ev, h⟩ := hr.1; cases ev; exact h
    | o b oc =>
      cases b with
      | true => cases hr.2.1
      | false =>
        obtain ⟨a, ea, h1, h2, _⟩ := hr.1
        cases ea
        refine ⟨rfl, a, rfl, fun y hy => ?_, h2⟩
        obtain ⟨q1, q2⟩ := hr.2.2 _ _ _ rfl rfl y hy
        refine ⟨⟨q2.elim id (fun z => by cases z), h1 y hy⟩, fun i a' c' g1 g2 => ?_⟩
        rw [← b2, List.getElem?_map] at g1
        rw [← b3] at g2
        cases q : (bsOf 0 vs cs)[i]? with
        | none => rw [q] at g1; cases g1
        | some p =>
          rw [q] at g1
          cases g1
          obtain ⟨c1, y1, y2, y3⟩ := at1 T.toCore _ (fun _ h => h) i p q
          rw [g2] at y1
          cases y1
          exact q1 _ _ _ _ y2 y3
  exact ⟨fun e q σ' H' F' T x => q .non H' F' (post T x (Res.dat .non)), fun r e q v σ' H' F' T x z => q v H' F' (post T x z), fun e q => q.elim, fun e q => q.elim⟩
end
end DL
set_option maxRecDepth 100000
set_option maxHeartbeats 4000000
namespace DL
open PySem PySem.Spec PyProof.Rows L2

theorem Frm.mono_m {K : PySem.W.Frag} {T : List (Addr × Str)} {F H : Hp} {bs bf : List Addr} {m m' : Nat} {os : List OC} {H' F' : Hp} (h : Frm K T F H bs bf m os H' F') (hm : m ≤ m') : Frm K T F H bs bf m' os H' F' :=
  ⟨h.ext, h.same, h.fr, h.ff, h.dom, h.tb, Paired.mapP h.bor fun a c q => ⟨q.1, OCOk.mono (Ext.refl _) hm (fun _ _ => rfl) q.2⟩, h.sep⟩
theorem PostD.mono_m {K : PySem.W.Frag} {T : List (Addr × Str)} {F H : Hp} {bs bf : List Addr} {m m' : Nat} {r : Cell} {os : List OC} {v : V} {H' F' : Hp} (h : PostD K T F H bs bf m r os v H' F') (hm : m ≤ m') : PostD K T F H bs bf m' r os v H' F' := by
  refine ⟨h.toFrm.mono_m hm, ?_⟩
  have q := h.res
  cases r with
  | un => trivial
  | d x => exact q
  | o b oc =>
    obtain ⟨q0, a, q1, q2, q4⟩ := q
    exact ⟨q0, a, q1, q2, OCOk.mono (Ext.refl _) hm (fun _ _ => rfl) q4⟩
def ConMono (con : Con) : Prop := ∀ cs P P' X X', (∀ r o, P r o → P' r o) → (∀ C f o, X C f o → X' C f o) → con cs P X → con cs P' X'
theorem runD_mono {N : Nat} {w : WS} (mw : MonoS w) {cs : List Cell} {P P' : Cell → List OC → Prop} (h : ∀ r o, P r o → P' r o) (q : runD N w cs P) : runD N w cs P' :=
  mw { nx := fun e => P (.d .non) (borsAt e (ownIx 0 cs)), rt := fun r e => P r (borsAt e (ownIx 0 cs)) } _ _ ⟨fun e => h _ _, fun r e => h _ _, fun _ z => z, fun _ z => z⟩ q
section
variable {P : Program} {w : World} {K : PySem.W.Frag} {mg : Str → Option Value} {base : Heap}
/-- THE RULE for a def, by data -/
theorem okD {x qual : Str} {st : Stmt} {f : Addr} {fd : FuncData} {N ps : List Str} {k c c' : Nat} {con : Con} {T : List (Addr × Str)} {wd : (Addr → List (Str × DV) → List Cell → Prop) → WS} (F : Fun K x qual st f fd) (S : FnScope N ps (defScope st)) (hlen : ∀ cs P X, con cs P X → cs.length = ps.length) (hc : c ≤ c')
    (hbody : ∀ (cdv : Value) (A : Around) (outer : List Env) (s : Shared) (H : Hp) (E : XK) (G : Addr → List (Str × DV) → List Cell → Prop) (M : Nat) (hM : M ≤ LIM), Room k (A.deeper (envOfC qual (defScope st) s.heap.objs.size f cdv)) →
      PSSd (cxOf (L2.CX P w) P w K mg base N qual (defScope st) f cdv A outer s H E) ⟨E, G, T, M, hM, []⟩ (defBody st) c (wd G))
    (hdata : ∀ cs P X, con cs P X → runD N.length (wd fun C fs e => X C fs (borsAt e (ownIx 0 cs))) cs P) : FnOk P w K mg base (L2.CX P w) (k + 1) f fd ps (SpD K T c' con) := by
  obtain ⟨oc, od, kV, doc, pm, an, cdv, ct, osl, rfl, lk, hcd⟩ := F.ex
  refine fn_of lk hcd S (fun vs H Q E h => ?_) fun A outer s H vs Q E hr h => ?_
  · obtain ⟨F, n, cs, M, hn, s, ht, hp, nd, q⟩ := h
    rw [hp.len]
    exact hlen _ _ _ q
  · obtain ⟨F0, n, cs, M, hn, s0, ht, hp, nd, q⟩ := h
    have hl : vs.length ≤ N.length := by
      have e1 := hlen _ _ _ q
      have e2 := congrArg List.length S.pre
      rw [List.length_take] at e2
      rw [hp.len, e1]
      omega
    have hd := hdata cs _ _ q
    have hb := hbody cdv A outer s H E (fun C fs e => ∀ d m H' F', n ≤ m → m ≤ M → PostX K T F0 H (borA vs cs) (borF H vs cs) m (borsAt e (ownIx 0 cs)) fs d H' F' → E (.ref C) (some d) H') M hn.2 hr
    refine ⟨_, hb.run, ?_⟩
    refine runD_ok hb (n := n) (by show _ ≤ M; omega) s0 ht hp nd hl (runD_mono hb.mono (fun r o z v H' F' p => z v H' F' (p.mono_m (by omega))) hd) (fun p hp => nomatch hp) ?_
    exact fun C fs e g d m H' F' h1 h2 px => g d m H' F' h1 h2 px
end

/-! ### arguments -/
inductive Arg where
  | d (x : DV) | b (j : Nat)
def ArgOk (K : PySem.W.Frag) (F : Hp) (σ : L2.St) (v : V) : Arg → Prop
  | .d x => Hold K F v x
  | .b j => σ[j]? = some (some v)
inductive ArgsOk (K : PySem.W.Frag) (F : Hp) (σ : L2.St) : List V → List Arg → Prop
  | nil : ArgsOk K F σ [] []
  | cons {v : V} {vs : List V} {a : Arg} {as : List Arg} : ArgOk K F σ v a → ArgsOk K F σ vs as → ArgsOk K F σ (v :: vs) (a :: as)
abbrev DB := List Cell → (List Arg → List Cell → Prop) → Prop
def tDb (K : PySem.W.Frag) (Z : ZX) (c : Nat) (f : DB) : TA := fun σ H Q => ∃ B F n env, n + c ≤ Z.M ∧ SOk B K Z F H n σ env ∧ f env fun as e => ∀ vs H' F', SOk B K Z F' H' (n + c) σ e → Ext F F' → ArgsOk K F' σ vs as → Q vs H'
structure PBd (X : Cx) (Z : ZX) (es : List Expr) (c : Nat) (f : DB) : Prop where
  mono : MonoC f
  run : PA X es (tDb X.K Z c f)
def bNil : DB := fun env Q => Q [] env
def bCons (f : DD) (g : DB) : DB := fun env Q => f env fun x e => g e fun as e2 => Q (.d x :: as) e2
def bBor (j : Nat) (g : DB) : DB := fun env Q => (match env[j]? with
  | some (.o _ _) => True
  | _ => False) ∧ g env fun as e2 => Q (.b j :: as) e2
section
variable {X : Cx} {Z : ZX} {e : Expr} {es : List Expr} {c cs : Nat} {f : DD} {g : DB}
theorem ArgOk.mono {K : PySem.W.Frag} {F F' : Hp} {σ : L2.St} {v : V} {a : Arg} (x : Ext F F') (h : ArgOk K F σ v a) : ArgOk K F' σ v a := by
  cases a with
  | d y => exact Hold.mono x h
  | b j => exact h
theorem pbNil : PBd X Z [] 0 bNil := ⟨fun _ _ _ q h => q _ _ h, PA_imp pa_nil fun σ H Q ⟨B, F, n, env, hn, S, h⟩ => h [] H F S (Ext.refl _) .nil⟩
theorem pbCons (ha : PEd X Z e c f) (hr : PBd X Z es cs g) (hs : starEach (e :: es) X.env = (false, eval e X.env) :: starEach es X.env := by rfl) : PBd X Z (e :: es) (c + cs) (bCons f g) := by
  refine ⟨fun env Q Q' q h => ha.mono _ _ _ (fun x e h => hr.mono _ _ _ (fun as e2 => q _ _) h) h, PA_imp (pa_cons ha.run hr.run hs) fun σ H Q ⟨B, F, n, env, hn, S, h⟩ => ?_⟩
  refine bindD ha.mono (by omega) S h fun x e1 v H1 F1 h1 S1 x1 hv => ?_
  refine ⟨B, F1, n + c, e1, by omega, S1, hr.mono _ _ _ (fun as e2 k vs H2 F2 S2 x2 ha => ?_) h1⟩
  rw [Nat.add_assoc] at S2
  exact k _ H2 F2 S2 (x1.trans x2) (.cons (hv.mono x2) ha)
theorem pbBor (j : Nat) {x : Str} {pos : Pos} (hr : PBd X Z es cs g) (hN : X.N[j]? = some x := by rfl) (hv : Vis X.env.scope x := by first | exact Or.inl rfl | exact Or.inr (Or.inl rfl) | exact Or.inr (Or.inr rfl)) (hd : (x == ("__debug__" : Str)) = false := by decide)
    (hcd : (x == ("__classdict__" : Str)) = false := by decide) (hs : starEach (.Name x pos :: es) X.env = (false, eval (.Name x pos) X.env) :: starEach es X.env := by rfl) : PBd X Z (.Name x pos :: es) cs (bBor j g) := by
  refine ⟨fun env Q Q' q h => ⟨h.1, hr.mono _ _ _ (fun as e2 => q _ _) h.2⟩, PA_imp (pa_cons (pe_var hN hv hd hcd) hr.run hs) fun σ H Q ⟨B, F, n, env, hn, S, h⟩ => ?_⟩
  obtain ⟨h0, h⟩ := h
  split at h0
  · rename_i b oc e1
    obtain ⟨a, e2, _⟩ := S.own e1
    exact ⟨_, e2, B, F, n, env, hn, S, hr.mono _ _ _ (fun as e2' k vs H2 F2 S2 x2 ha => k _ H2 F2 S2 x2 (.cons e2 ha)) h⟩
  · exact h0.elim
end

/-! ### a call -/
def cellOf (env : List Cell) : Arg → Cell
  | .d x => .d x
  | .b j => match env[j]? with
    | some (.o _ c) => .o true c
    | _ => .un
def borIx : List Arg → List Nat
  | [] => []
  | .b j :: as => j :: borIx as
  | .d _ :: as => borIx as
def putB (env : List Cell) : List Nat → List OC → List Cell
  | j :: js, o :: os => match env[j]? with
    | some (.o b _) => putB (env.set j (.o b o)) js os
    | _ => putB env js os
  | _, _ => env
/-- all owned here, or all handed in -/
def sameOwn (env : List Cell) (b : Bool) : List Nat → Prop
  | [] => True
  | j :: js => (match env[j]? with
    | some (.o b' _) => b' = b
    | _ => False) ∧ sameOwn env b js
/-- all the slots named are owned -/
def allOwn (env : List Cell) : List Nat → Prop
  | [] => True
  | j :: js => (match env[j]? with
    | some (.o b _) => sameOwn env b js
    | _ => False) ∧ allOwn env js
def dCall (con : Con) (G : Addr → List (Str × DV) → List Cell → Prop) (f : DB) : DE := fun env Q => f env fun as e => ((borIx as).Nodup ∧ allOwn e (borIx as)) ∧ con (as.map (cellOf e)) (fun r os => Q r (putB e (borIx as) os)) fun C fs os => G C fs (putB e (borIx as) os)
section
variable {B : Base} {K : PySem.W.Frag} {Z : ZX} {Tz : List (Addr × Str)} {F F' H H' : Hp} {n m : Nat} {σ : L2.St} {env : List Cell}
theorem allOwn_at : ∀ {js : List Nat}, allOwn env js → ∀ j ∈ js, ∃ b c, env[j]? = some (.o b c)
  | j :: js, h, i, hi => by
    rcases List.mem_cons.mp hi with rfl | hi
    · have h1 := h.1
      split at h1
      · exact ⟨_, _, by assumption⟩
      · exact h1.elim
    · exact allOwn_at h.2 i hi
theorem sameOwn_at : ∀ {js : List Nat} {b : Bool}, sameOwn env b js → ∀ j ∈ js, ∀ b' c, env[j]? = some (.o b' c) → b' = b
  | j :: js, b, h, i, hi, b', c, e => by
    rcases List.mem_cons.mp hi with rfl | hi
    · have h1 := h.1
      rw [e] at h1
      exact h1
    · exact sameOwn_at h.2 i hi b' c e
theorem allOwn_same : ∀ {js : List Nat}, allOwn env js → ∀ i ∈ js, ∀ j ∈ js, ∀ b c b' c', env[i]? = some (.o b c) → env[j]? = some (.o b' c') → b = b'
  | k :: js, h, i, hi, j, hj, b, c, b', c', ei, ej => by
    have h1 := h.1
    split at h1
    · rename_i b0 c0 e0
      have all : ∀ i ∈ k :: js, ∀ b c, env[i]? = some (.o b c) → b = b0 := fun i hi b c e => by
        rcases List.mem_cons.mp hi with rfl | hi
        · rw [e0] at e
          cases e
          rfl
        · exact sameOwn_at h1 i hi b c e
      exact (all i hi b c ei).trans (all j hj b' c' ej).symm
    · exact h1.elim
theorem args_par (S : Core B K Tz F H n σ env) : ∀ {vs : List V} {as : List Arg}, ArgsOk K F σ vs as → allOwn env (borIx as) → ParOk K F H n vs (as.map (cellOf env)) ∧
    (∀ x ∈ borF H vs (as.map (cellOf env)), ∃ j ∈ borIx as, ∃ b c a, env[j]? = some (.o b c) ∧ σ[j]? = some (some (.ref a)) ∧ x ∈ fp H a c) ∧ Paired (fun j a => σ[j]? = some (some (.ref a))) (borIx as) (borA vs (as.map (cellOf env)))
  | _, _, .nil, _ => ⟨trivial, (fun a h => by cases h), .nil⟩
  | _, _, .cons (v := v) (vs := vs) (a := a) (as := as) h t, ho => by
    cases a with
    | d x =>
      obtain ⟨i1, i2, i3⟩ := args_par S t ho
      have e : borA (v :: vs) (Cell.d x :: as.map (cellOf env)) = borA vs (as.map (cellOf env)) := by cases v <;> rfl
      have e' : borF H (v :: vs) (Cell.d x :: as.map (cellOf env)) = borF H vs (as.map (cellOf env)) := by cases v <;> rfl
      exact ⟨⟨h, i1⟩, by rw [List.map_cons, cellOf, e']; exact i2, by rw [List.map_cons, cellOf, e]; exact i3⟩
    | b j =>
      obtain ⟨i1, i2, i3⟩ := args_par S t ho.2
      obtain ⟨b, c, ec⟩ := allOwn_at ho j List.mem_cons_self
      obtain ⟨a, e1, e2, e3, _⟩ := S.ownF ec
      have hv : v = .ref a := by
        have h : σ[j]? = some (some v) := h
        rw [e1] at h
        cases h
        rfl
      subst hv
      have ecell : cellOf env (.b j) = .o true c := by simp only [cellOf, ec]
      rw [List.map_cons, ecell]
      refine ⟨⟨⟨a, rfl, e2, e3⟩, i1⟩, fun q hq => ?_, .cons e1 i3⟩
      rcases List.mem_append.mp hq with hq | hq
      · exact ⟨j, List.mem_cons_self, b, c, a, ec, e1, hq⟩
      · obtain ⟨k, hk, z⟩ := i2 q hq
        exact ⟨k, List.mem_cons_of_mem _ hk, z⟩
theorem Paired.get {α β : Type} {R : α → β → Prop} {l : List α} {l' : List β} (h : Paired R l l') : ∀ (t : Nat) (j : α), l[t]? = some j → ∃ a, l'[t]? = some a ∧ R j a := by
  induction h with
  | nil => intro t j e; simp at e
  | cons h t ih =>
    intro k j e
    cases k with
    | zero =>
      cases e
      exact ⟨_, rfl, h⟩
    | succ k =>
      obtain ⟨a, q1, q2⟩ := ih k j (by simpa using e)
      exact ⟨a, by simpa using q1, q2⟩
/-- the changed objects are put back -/
theorem SOk.putB {b0 : Bool} (m0 : n ≤ m) : ∀ (js : List Nat) (as : List Addr) (os : List OC) {env : List Cell}, (∀ (i : Nat) (c : Cell), env[i]? = some c → i ∉ js → ∃ o, σ[i]? = some o ∧ CellOk B K F' H' m o c) → (σ.length = env.length) →
    (∀ j ∈ js, ∃ c a, env[j]? = some (.o b0 c) ∧ σ[j]? = some (some (.ref a)) ∧ (b0 = true → a ∈ B.bor)) → js.Nodup → Paired (fun j a => σ[j]? = some (some (.ref a))) js as → Paired (fun a c => (∀ x ∈ fp H' a c, F' x = none ∧ OwnAs B b0 x) ∧ OCOk K F' H' m a c) as os →
    (∀ (i : Nat) (c : Cell), (DL.putB env js os)[i]? = some c → ∃ o, σ[i]? = some o ∧ CellOk B K F' H' m o c) ∧ (DL.putB env js os).length = env.length ∧
      (∀ (i : Nat) (b : Bool) (c : OC), env[i]? = some (.o b c) → ∃ c', (DL.putB env js os)[i]? = some (.o b c')) ∧
      (∀ (i : Nat) (b : Bool) (c : OC), (DL.putB env js os)[i]? = some (.o b c) → (i ∉ js ∧ env[i]? = some (.o b c)) ∨ ∃ (t : Nat) (c' : OC), js[t]? = some i ∧ os[t]? = some c ∧ env[i]? = some (.o b c'))
  | [], _, _, env, h, hl, _, _, _, _ => by
    cases ‹List OC› <;> exact ⟨fun i c e => h i c e (by simp), rfl, fun i b c e => ⟨c, e⟩, fun i b c e => .inl ⟨by simp, e⟩⟩
  | j :: js, _, _, env, h, hl, ho, nd, .cons (b := a) e1 p1, .cons (b := o) e2 p2 => by
    obtain ⟨c, a', ec, ea, f1⟩ := ho j List.mem_cons_self
    obtain ⟨n1, n2⟩ := List.nodup_cons.mp nd
    rw [e1] at ea
    cases ea
    have hj : j < env.length := (List.getElem?_eq_some_iff.mp ec).1
    rw [DL.putB, ec]
    have r := SOk.putB m0 js _ _ (env := env.set j (.o b0 o)) (fun i c' e hi => by
      rcases getElem?_set_cases e with ⟨rfl, rfl, _⟩ | ⟨ne, e'⟩
      · exact ⟨_, e1, a, rfl, fun x hx => (e2.1 x hx).1, e2.2, f1, fun x hx => (e2.1 x hx).2⟩
      · exact h i c' e' (by simp only [List.mem_cons, not_or]; exact ⟨fun z => ne z.symm, hi⟩)) (by rw [List.length_set]; exact hl)
      (fun k hk => by
        obtain ⟨c', a', q1, q2⟩ := ho k (List.mem_cons_of_mem _ hk)
        have ne : j ≠ k := by rintro rfl; exact n1 hk
        exact ⟨c', a', by rw [List.getElem?_set_ne ne]; exact q1, q2⟩) n2 p1 p2
    obtain ⟨r1, r2, r3, r4⟩ := r
    refine ⟨r1, by rw [r2, List.length_set], fun i b' c' e => ?_, fun i b' c' e => ?_⟩
    · by_cases z : j = i
      · subst z
        rw [ec] at e
        cases e
        exact r3 j _ o (List.getElem?_set_self hj)
      · exact r3 i b' c' (by rw [List.getElem?_set_ne z]; exact e)
    · rcases r4 i b' c' e with ⟨ni, q⟩ | ⟨t, c2, q1, q2, q3⟩
      · rcases getElem?_set_cases q with ⟨rfl, z, _⟩ | ⟨ne, q⟩
        · cases z
          exact .inr ⟨0, c, rfl, rfl, ec⟩
        · exact .inl ⟨by simp only [List.mem_cons, not_or]; exact ⟨fun z => ne z.symm, ni⟩, q⟩
      · right
        rcases getElem?_set_cases q3 with ⟨rfl, z, _⟩ | ⟨_, q3⟩
        · cases z
          exact ⟨t + 1, c, by simpa using q1, by simpa using q2, ec⟩
        · exact ⟨t + 1, c2, by simpa using q1, by simpa using q2, q3⟩
/-- THE STATE behind a call -/
theorem Core.call (S : Core B K Tz F H n σ env) {vs : List V} {as : List Arg} (ha : ArgsOk K F σ vs as) (nd : (borIx as).Nodup) (ho : allOwn env (borIx as)) {os : List OC} (hm : n ≤ m)
    (p : Frm K Tz F H (borA vs (as.map (cellOf env))) (borF H vs (as.map (cellOf env))) m os H' F') : Core B K Tz F' H' m σ (DL.putB env (borIx as) os) ∧ ∀ (i : Nat) (b : Bool) (c : OC), (DL.putB env (borIx as) os)[i]? = some (.o b c) → (i ∉ borIx as ∧ env[i]? = some (.o b c)) ∨ ∃ (t : Nat) (c' : OC), (borIx as)[t]? = some i ∧ os[t]? = some c ∧ env[i]? = some (.o b c') := by
  obtain ⟨p1, p2, p3⟩ := args_par S ha ho
  -- an address handed in is this def's own
  obtain ⟨b0, hb0⟩ : ∃ b0 : Bool, ∀ j ∈ borIx as, ∀ b c, env[j]? = some (.o b c) → b = b0 := by
    cases hj : borIx as with
    | nil => exact ⟨true, fun j h => by cases h⟩
    | cons j js =>
      rw [hj] at ho
      obtain ⟨b, c, e⟩ := allOwn_at ho j List.mem_cons_self
      exact ⟨b, fun i hi b' c' e' => (allOwn_same ho i hi j List.mem_cons_self b' c' b c e' e)⟩
  have mine' : ∀ x ∈ borF H vs (as.map (cellOf env)), F x = none ∧ OwnAs B b0 x := fun x hq => by
    obtain ⟨j, hj, b, c, a, ec, ea, hx⟩ := p2 x hq
    obtain ⟨e2, _, _, e4⟩ := S.ownAt ec ea
    exact ⟨e2 x hx, hb0 j hj b c ec ▸ e4 x hx⟩
  have mine : ∀ x ∈ borF H vs (as.map (cellOf env)), F x = none ∧ OwnAt B x := fun x hq => ⟨(mine' x hq).1, (mine' x hq).2.at⟩
  have keep : ∀ (i : Nat) (b : Bool) (c : OC) (a : Addr), env[i]? = some (.o b c) → σ[i]? = some (some (.ref a)) → i ∉ borIx as → ∀ x ∈ fp H a c, x ∉ borF H vs (as.map (cellOf env)) ∧ H' x = H x ∧ F' x = none := fun i b c a e e1 hi x hx => by
    obtain ⟨h1, h2, _, _⟩ := S.ownAt e e1
    obtain ⟨o2, eo, po⟩ := h2.pl x hx
    have na : x ∉ borF H vs (as.map (cellOf env)) := fun z => by
      obtain ⟨j, hj, b2, c2, a2, ec2, ea2, hx2⟩ := p2 x z
      exact hi (S.sep i j _ _ _ _ _ _ x e ec2 e1 ea2 hx hx2 ▸ hj)
    exact ⟨na, by rw [eo]; exact (p.fr _ _ eo na).eq (plain_tbl po), (p.ff _ (by rw [eo]; rfl) na).elim (fun q => q.trans (h1 x hx)) fun ⟨o', q, lx⟩ => (by
      rw [eo] at q
      cases q
      rw [plain_lax po] at lx
      cases lx)⟩
  have q := SOk.putB (b0 := b0) (B := B) (K := K) (F' := F') (H' := H') (σ := σ) hm (borIx as) _ os (env := env) (fun i c e hi => by
    obtain ⟨o, e1, h⟩ := S.at_ i c e
    refine ⟨o, e1, h.mono p.ext hm fun a b c' ea ec x hx => ?_⟩
    subst ea
    subst ec
    exact (keep i b c' a e e1 hi x hx).2) S.len (fun j hj => by
    obtain ⟨b, c, ec⟩ := allOwn_at ho j hj
    obtain ⟨a, e1, _, _, e4⟩ := S.own ec
    have eb := hb0 j hj b c ec
    subst eb
    exact ⟨c, a, ec, e1, e4⟩) nd p3 (Paired.mapP p.bor fun a c q => ⟨fun x hx => ⟨(q.1 x hx).1, (q.1 x hx).2.elim (fun y => (mine' x y).2) fun y => .inr (.inl (S.fresh0 y))⟩, q.2⟩)
  obtain ⟨q1, q2, q3, q4⟩ := q
  have S' : Core B K Tz F' H' m σ (DL.putB env (borIx as) os) := by
    refine ⟨p.same, by rw [q2]; exact S.len, q1, fun i j b b' c c' a a' x ei ej si sj xi xj => ?_, fun a o e hb hl => ?_, fun a e hb hl => ?_, S.bd, S.lb, fun z hz => ?_, fun z hz => ?_, fun a e => p.dom a (S.dom a e), p.tb⟩
    · -- a slot that was handed in
      have inn : ∀ {i t : Nat} {c : OC} {a : Addr}, (borIx as)[t]? = some i → os[t]? = some c → σ[i]? = some (some (.ref a)) → (borA vs (as.map (cellOf env)))[t]? = some a ∧ ∀ x ∈ fp H' a c, x ∈ borF H vs (as.map (cellOf env)) ∨ H x = none := fun {i t c a} h1 h2 h3 => by
        obtain ⟨a1, y1, y2⟩ := Paired.get p3 t i h1
        rw [h3] at y2
        cases y2
        obtain ⟨c1, z1, z2⟩ := Paired.get p.bor t a y1
        rw [h2] at z1
        cases z1
        exact ⟨y1, fun x hx => (z2.1 x hx).2⟩
      have out : ∀ {i k t : Nat} {b b' : Bool} {c c' : OC} {a a' : Addr}, i ∉ borIx as → env[i]? = some (.o b c) → σ[i]? = some (some (.ref a)) → (borIx as)[t]? = some k → os[t]? = some c' → σ[k]? = some (some (.ref a')) → x ∈ fp H' a c → x ∈ fp H' a' c' → False := fun {i k t b b' c c' a a'} h1 h2 h3 h4 h5 h6 hx hy => by
        have ef : fp H' a c = fp H a c := fp_congr fun y hy => (keep i b c a h2 h3 h1 y hy).2.1
        rw [ef] at hx
        obtain ⟨_, g2, _⟩ := S.ownAt h2 h3
        obtain ⟨o, eo, _⟩ := g2.pl x hx
        rcases (inn h4 h5 h6).2 x hy with z | z
        · exact (keep i b c a h2 h3 h1 x hx).1 z
        · rw [eo] at z
          cases z
      rcases q4 i b c ei with ⟨ni, gi⟩ | ⟨t, ci, ti, oi, gi⟩
      · rcases q4 j b' c' ej with ⟨nj, gj⟩ | ⟨t2, cj, tj, oj, gj⟩
        · rw [fp_congr fun y hy => (keep i b c a gi si ni y hy).2.1] at xi
          rw [fp_congr fun y hy => (keep j b' c' a' gj sj nj y hy).2.1] at xj
          exact S.sep i j b b' c c' a a' x gi gj si sj xi xj
        · exact (out (b' := b') ni gi si tj oj sj xi xj).elim
      · rcases q4 j b' c' ej with ⟨nj, gj⟩ | ⟨t2, cj, tj, oj, gj⟩
        · exact (out (b' := b) nj gj sj ti oi si xj xi).elim
        · have e := p.sep t t2 a a' c c' x (inn ti oi si).1 oi (inn tj oj sj).1 oj xi xj
          subst e
          rw [ti] at tj
          cases tj
          rfl
    · have g := S.fr a o e hb hl
      obtain ⟨o1, e1⟩ := Option.isSome_iff_exists.mp g.isSome
      rw [e1] at g
      refine g.trans (p.fr a o1 e1 fun z => ?_)
      rcases (mine a z).2 with y | y | y
      · exact hb y
      · rw [y] at e; cases e
      · exact hl y
    · have na : a ∉ borF H vs (as.map (cellOf env)) := fun z => by
        rcases (mine a z).2 with y | y | y
        · exact hb y
        · rw [y] at e; cases e
        · exact hl y
      rcases p.ff a (S.dom a e) na with q | ⟨o', q, lx⟩
      · exact (S.ff a e hb hl).imp (fun r => q.trans r) id
      · obtain ⟨o, eo⟩ := Option.isSome_iff_exists.mp e
        have g := S.fr a o eo hb hl
        rw [q] at g
        exact .inr ⟨o, eo, g.lax lx⟩
    · have e := S.lk z hz
      have na : z.1 ∉ borF H vs (as.map (cellOf env)) := fun y => by
        rw [(mine _ y).1] at e
        cases e
      rcases p.ff _ (by rw [S.same _ _ e]; rfl) na with q | ⟨o', q, lx⟩
      · exact q.trans e
      · rw [S.same _ _ e] at q
        cases q
        cases lx
    · obtain ⟨⟨oc, e1⟩, e2⟩ := S.bs z hz
      exact ⟨q3 _ _ _ e1, e2⟩
  exact ⟨S', q4⟩
theorem SOk.call (S : SOk B K Z F H n σ env) {vs : List V} {as : List Arg} (ha : ArgsOk K F σ vs as) (nd : (borIx as).Nodup) (ho : allOwn env (borIx as)) {r : Cell} {os : List OC} {v : V} (hm : n ≤ m)
    (p : PostD K Z.T F H (borA vs (as.map (cellOf env))) (borF H vs (as.map (cellOf env))) m r os v H' F') : SOk B K Z F' H' m σ (DL.putB env (borIx as) os) ∧ Res B K F' H' m σ (DL.putB env (borIx as) os) v r := by
  obtain ⟨S0, q4⟩ := S.toCore.call ha nd ho hm p.toFrm
  refine ⟨⟨S0, S.lnk.mono p.ext hm⟩, ?_⟩
  have hr := p.res
  cases r with
  | un => exact ⟨trivial, rfl, fun b oc a (z : Cell.un = Cell.o b oc) => nomatch z⟩
  | d x => exact Res.dat hr
  | o b oc =>
    obtain ⟨rfl, a, rfl, h1, h3⟩ := hr
    refine Res.mk (fun x hx => (h1 x hx).1.2) h3 fun x hx => ⟨fun i b' c' a' ei si hy => ?_, NewAt.new (S.fresh0 (h1 x hx).1.1)⟩
    rcases q4 i b' c' ei with ⟨ni, gi⟩ | ⟨t, ci, ti, oi, gi⟩
    · obtain ⟨g1, g2, _⟩ := S.toCore.ownAt gi si
      obtain ⟨p1, p2, p3⟩ := args_par S.toCore ha ho
      have same : ∀ y ∈ fp H a' c', H' y = H y := fun y hy => by
        obtain ⟨o2, eo, po⟩ := g2.pl y hy
        have na : y ∉ borF H vs (as.map (cellOf env)) := fun z => by
          obtain ⟨j, hj, b2, c2, a2, ec2, ea2, hx2⟩ := p2 y z
          exact ni (S.sep i j _ _ _ _ _ _ y gi ec2 si ea2 hy hx2 ▸ hj)
        rw [eo]
        exact (p.fr _ _ eo na).eq (plain_tbl po)
      rw [fp_congr same] at hy
      obtain ⟨o, eo, _⟩ := g2.pl x hy
      rw [(h1 x hx).1.1] at eo
      cases eo
    · obtain ⟨p1, p2, p3⟩ := args_par S.toCore ha ho
      obtain ⟨a1, y1, y2⟩ := Paired.get p3 t i ti
      rw [si] at y2
      cases y2
      exact (h1 x hx).2 t a' c' y1 oi hy
theorem ArgsOk.nodup (S : Core B K Tz F H n σ env) : ∀ {vs : List V} {as : List Arg}, ArgsOk K F σ vs as → (borIx as).Nodup → allOwn env (borIx as) → (borF H vs (as.map (cellOf env))).Nodup
  | _, _, .nil, _, _ => List.nodup_nil
  | _, _, .cons (v := v) (vs := vs) (a := a) (as := as) h t, nd, ho => by
    cases a with
    | d x =>
      have e : borF H (v :: vs) (Cell.d x :: as.map (cellOf env)) = borF H vs (as.map (cellOf env)) := by cases v <;> rfl
      rw [List.map_cons, cellOf, e]
      exact ArgsOk.nodup S t nd ho
    | b j =>
      obtain ⟨n1, n2⟩ := List.nodup_cons.mp nd
      obtain ⟨b, c, ec⟩ := allOwn_at ho j List.mem_cons_self
      obtain ⟨a, e1, _, e3, _⟩ := S.ownF ec
      have hv : v = .ref a := by
        have h : σ[j]? = some (some v) := h
        rw [e1] at h
        cases h
        rfl
      subst hv
      have ecell : cellOf env (.b j) = .o true c := by simp only [cellOf, ec]
      rw [List.map_cons, ecell]
      refine List.nodup_append.mpr ⟨e3.nodup, ArgsOk.nodup S t n2 ho.2, fun x hx y hy z => ?_⟩
      subst z
      obtain ⟨k, hk, b2, c2, a2, ec2, ea2, hx2⟩ := (args_par S t ho.2).2.1 x hy
      have := S.sep j k _ _ _ _ _ _ x ec ec2 e1 ea2 hx hx2
      exact n1 (this ▸ hk)
end
section
variable {X : Cx} {Z : ZX} {k : Nat} {f : Addr} {fd : FuncData} {ps : List Str} {con : Con} {cf ca : Nat} {x : Str} {p pos : Pos} {e : Expr} {es : List Expr} {g : DB}
theorem call_core (mc : ConMono con) {σ : L2.St} {H : Hp} {Q : VK} (ha : MonoC g) (h : tDc X.K Z (ca + cf) (dCall con Z.G g) σ H Q) : tDb X.K Z ca g σ H fun vs H1 => SpD X.K Z.T cf con vs H1 Q Z.E := by
  obtain ⟨B, F, n, env, hn, S, h⟩ := h
  refine ⟨B, F, n, env, by omega, S, ha _ _ _ (fun as e ⟨⟨nd, ho⟩, q⟩ vs H1 F1 S1 x1 hv => ?_) h⟩
  refine ⟨F1, n + ca, as.map (cellOf e), Z.M, ⟨by omega, Z.ml⟩, S1.same, S1.tb, (args_par S1.toCore hv ho).1, ArgsOk.nodup S1.toCore hv nd ho, mc _ _ _ _ _ (fun r os k v H2 F2 pd => ?_) (fun C fs os gx d m H2 F2 h1 h2 px => ?_) q⟩
  · obtain ⟨S2, r2⟩ := S1.call hv nd ho (Nat.le_add_right _ _) pd
    rw [Nat.add_assoc] at S2 r2
    exact k v H2 F2 S2 (x1.trans pd.ext) r2
  · obtain ⟨S2, _⟩ := S1.toCore.call hv nd ho h1 px.toFrm
    exact S1.lnk.2 F2 H2 m σ _ C d fs S2 px.ext h1 h2 px.exc (S1.fresh0 px.new) gx
theorem mono_call {G : Addr → List (Str × DV) → List Cell → Prop} (mc : ConMono con) (ha : MonoC g) : MonoC (dCall con G g) := fun env Q Q' q h => ha _ _ _ (fun as e ⟨h1, h2⟩ => ⟨h1, mc _ _ _ _ _ (fun r o => q _ _) (fun _ _ _ z => z) h2⟩) h
/-- no error comes -/
theorem passF {P : Program} {w : World} {X : Cx} : Passes (L2.CX P w) X fun _ _ _ => False := fun _ _ _ _ _ _ _ h => by
  obtain ⟨_, _, _, _, _, _, _, _, _, _, _, _, z⟩ := h
  exact z.elim
/-- f(..) -/
theorem pcCall (mc : ConMono con) (G : FnOk X.prog X.w X.K X.mg X.base (L2.CX X.prog X.w) k f fd ps (SpD X.K Z.T cf con)) (hr : Room k X.A) (hx : Passes (L2.CX X.prog X.w) X Z.E) (hg : Gl X x) (hm : X.mg x = some (.ref f)) (hk : PySem.W.keepIn X.K (.ref f) = true) (hb : Binds X.K fd ps [])
    (ha : PBd X Z (e :: es) ca g) (hdb : (x == ("__debug__" : Str)) = false := by decide) (he : starEach (e :: es) X.env = (false, eval e X.env) :: starEach es X.env := by rfl) (hpl : (backTo pos (starEach es X.env)).any (·.1) = false := by rfl) :
    PEc X Z (.Call (.Name x p) (e :: es) [] pos) (ca + cf) (dCall con Z.G g) := by
  refine ⟨mono_call mc ha.mono, PE_imp (pe_call G hr hg hm hk hb .nil hx ha.run hdb he hpl) fun σ H Q h => ?_⟩
  have q := call_core mc ha.mono h
  show tDb X.K Z ca g σ H fun vs H1 => SpD X.K Z.T cf con (vs ++ []) H1 Q Z.E
  simpa only [List.append_nil] using q
end
end DL
set_option maxRecDepth 100000
set_option maxHeartbeats 4000000
namespace DL
open PySem PySem.Spec PyProof.Rows L2

/-! ### to be read: data, or an owned object -/
def View (K : PySem.W.Frag) (F H : Hp) (n : Nat) (v : V) (d : DV) : Prop := Hold K F v d ∨ ∃ a oc, v = .ref a ∧ OCOk K F H n a oc ∧ oc.flat = some d
section
variable {K : PySem.W.Frag} {F H : Hp} {n : Nat} {v : V} {B : Base} {σ : L2.St} {env : List Cell}
theorem View.lst (s : Same F H) {xs : List DV} (h : View K F H n v (.lst xs)) : ∃ a vs, v = .ref a ∧ H a = some (.lst vs) ∧ HoldAll K F vs xs := by
  rcases h with h | ⟨a, oc, rfl, h, e⟩
  · cases h with
    | lst ha hx => exact ⟨_, _, rfl, s _ _ ha, hx⟩
  · cases oc with
    | l ys => cases e; obtain ⟨vs, h1, h2⟩ := h; exact ⟨a, vs, rfl, h1, h2⟩
    | _ => cases e
theorem View.tup {xs : List DV} (h : View K F H n v (.tup xs)) : ∃ a vs, v = .ref a ∧ F a = some (.tup vs) ∧ HoldAll K F vs xs := by
  rcases h with h | ⟨a, oc, rfl, h, e⟩
  · cases h with
    | tup ha hx => exact ⟨_, _, rfl, ha, hx⟩
  · cases oc <;> cases e
theorem View.ktup {xs : List DV} (h : View K F H n v (.ktup xs)) : ∃ a vs, v = .ref a ∧ SqT K F a vs ∧ HoldAll K F vs xs := by
  rcases h with h | ⟨a, oc, rfl, h, e⟩
  · exact Hold.sqT (.inr h)
  · cases oc <;> cases e
theorem View.klst {xs : List DV} (h : View K F H n v (.klst xs)) : ∃ a vs, v = .ref a ∧ SqL K F a vs ∧ HoldAll K F vs xs := by
  rcases h with h | ⟨a, oc, rfl, h, e⟩
  · cases h with
    | klst ha hx => exact ⟨_, _, rfl, ha, hx⟩
  · cases oc <;> cases e
theorem View.dk (s : Same F H) {kvs : List (Key × DV)} (h : View K F H n v (.dk kvs)) : ∃ a us, v = .ref a ∧ Rd H a (.dK us) ∧ us.map (·.1) = kvs.map (·.1) ∧ HoldAll K F (us.map (·.2)) (kvs.map (·.2)) := by
  rcases h with h | ⟨a, oc, rfl, h, e⟩
  · cases h with
    | dk ha e hx => exact ⟨_, _, rfl, (Ext.of s).rd ha, e, hx⟩
  · cases oc with
    | k ys => cases e; obtain ⟨vs, h1, h2, h3⟩ := h; exact ⟨a, vs, rfl, .inl h1, h2, h3⟩
    | _ => cases e
theorem View.dt (s : Same F H) {kvs : List (List Key × DV)} (h : View K F H n v (.dt kvs)) : ∃ a us, v = .ref a ∧ Rd H a (.dT us) ∧ us.map (·.1) = kvs.map (·.1) ∧ HoldAll K F (us.map (·.2)) (kvs.map (·.2)) := by
  rcases h with h | ⟨a, oc, rfl, h, e⟩
  · cases h with
    | dt ha e hx => exact ⟨_, _, rfl, (Ext.of s).rd ha, e, hx⟩
  · cases oc with
    | t ys => cases e; obtain ⟨vs, h1, h2, h3⟩ := h; exact ⟨a, vs, rfl, .inl h1, h2, h3⟩
    | _ => cases e
theorem View.ins (s : Same F H) {C : Addr} {fs : List (Str × DV)} (h : View K F H n v (.ins C fs)) : ∃ a dx us, v = .ref a ∧ H a = some (.ins C dx us) ∧ us.map (·.1) = fs.map (·.1) ∧ HoldAll K F (us.map (·.2)) (fs.map (·.2)) := by
  rcases h with h | ⟨a, oc, rfl, h, e⟩
  · cases h with
    | ins ha e hx => exact ⟨_, _, _, rfl, s _ _ ha, e, hx⟩
  · cases oc with
    | ins C ys => cases e; obtain ⟨dx, vs, h1, h2, h3⟩ := h; exact ⟨a, dx, vs, rfl, h1, h2, h3⟩
    | _ => cases e
theorem View.atom {d : DV} (h : View K F H n v d) (hd : ∀ oc : OC, oc.flat ≠ some d) : Hold K F v d := by
  rcases h with h | ⟨a, oc, _, _, e⟩
  · exact h
  · exact absurd e (hd oc)
theorem View.int {i : Int} (h : View K F H n v (.int i)) : v = .int i := by
  have := h.atom fun oc e => by cases oc <;> cases e
  cases this; rfl
theorem View.str {x : Str} (h : View K F H n v (.str x)) : v = .str x := by
  have := h.atom fun oc e => by cases oc <;> cases e
  cases this; rfl
/-- a slot's view -/
theorem SOk.view (S : SOk B K Z F H n σ env) {j : Nat} {c : Cell} {d : DV} (e : env[j]? = some c) (hv : c.view = some d) : ∃ v, σ[j]? = some (some v) ∧ View K F H n v d := by
  cases c with
  | un => cases hv
  | d x =>
    cases hv
    obtain ⟨v, e1, h⟩ := S.dat e
    exact ⟨v, e1, .inl h⟩
  | o b oc =>
    obtain ⟨a, e1, _, h2, _⟩ := S.own e
    exact ⟨_, e1, .inr ⟨a, oc, rfl, h2, hv⟩⟩
end

/-! ### dicts by data -/
section
variable {κ : Type} [DecidableEq κ]
def valD (kvs : List (κ × DV)) (k : κ) : Option DV := (kvs.find? fun kv => decide (kv.1 = k)).map (·.2)
def putD (kvs : List (κ × DV)) (k : κ) (v : DV) : List (κ × DV) := if (kvs.any fun kv => decide (kv.1 = k)) = true then kvs.map (fun kv => if kv.1 = k then (kv.1, v) else kv) else kvs ++ [(k, v)]
theorem putK_def (kvs : List (κ × V)) (k : κ) (v : V) : putK kvs k v = if (kvs.any fun kv => decide (kv.1 = k)) = true then kvs.map (fun kv => if kv.1 = k then (kv.1, v) else kv) else kvs ++ [(k, v)] := rfl
end
def HKV {κ : Type} (K : PySem.W.Frag) (F : Hp) (us : List (κ × V)) (kvs : List (κ × DV)) : Prop := us.map (·.1) = kvs.map (·.1) ∧ HoldAll K F (us.map (·.2)) (kvs.map (·.2))
section
variable {κ : Type} {K : PySem.W.Frag} {F : Hp}
theorem HKV.nil : HKV K F ([] : List (κ × V)) ([] : List (κ × DV)) := ⟨rfl, .nil⟩
theorem HKV.cons {k : κ} {v : V} {d : DV} {us : List (κ × V)} {kvs : List (κ × DV)} (h : Hold K F v d) (t : HKV K F us kvs) : HKV K F ((k, v) :: us) ((k, d) :: kvs) := ⟨by simp [t.1], .cons h t.2⟩
theorem HKV.inv {us : List (κ × V)} {kvs : List (κ × DV)} (h : HKV K F us kvs) : (us = [] ∧ kvs = []) ∨ ∃ k v d us' kvs', us = (k, v) :: us' ∧ kvs = (k, d) :: kvs' ∧ Hold K F v d ∧ HKV K F us' kvs' := by
  obtain ⟨h1, h2⟩ := h
  cases us with
  | nil =>
    cases kvs with
    | nil => exact .inl ⟨rfl, rfl⟩
    | cons p r => simp at h1
  | cons p r =>
    cases kvs with
    | nil => simp at h1
    | cons q r' =>
      obtain ⟨k, v⟩ := p
      obtain ⟨k', d⟩ := q
      simp only [List.map_cons, List.cons.injEq] at h1
      obtain ⟨e, h1⟩ := h1
      have e : k = k' := e
      subst e
      cases h2 with
      | cons a t => exact .inr ⟨k, v, d, r, r', rfl, rfl, a, h1, t⟩
theorem HKV.append {us us' : List (κ × V)} {kvs kvs' : List (κ × DV)} (h : HKV K F us kvs) (h' : HKV K F us' kvs') : HKV K F (us ++ us') (kvs ++ kvs') := ⟨by rw [List.map_append, List.map_append, h.1, h'.1], by rw [List.map_append, List.map_append]; exact h.2.append h'.2⟩
theorem HKV.length {us : List (κ × V)} {kvs : List (κ × DV)} (h : HKV K F us kvs) : us.length = kvs.length := by
  have := congrArg List.length h.1
  simpa using this
variable [DecidableEq κ]
theorem HKV.val : ∀ {us : List (κ × V)} {kvs : List (κ × DV)}, HKV K F us kvs → ∀ k, (∀ v, valV us k = some v → ∃ d, valD kvs k = some d ∧ Hold K F v d) ∧ (∀ d, valD kvs k = some d → ∃ v, valV us k = some v ∧ Hold K F v d) ∧ (valV us k = none ↔ valD kvs k = none)
  | [], kvs, h, k => by
    rcases h.inv with ⟨_, rfl⟩ | ⟨_, _, _, _, _, e, _⟩
    · refine ⟨fun v e => ?_, fun d e => ?_, ?_⟩
      · cases e
      · cases e
      · simp [valV, valD]
    · cases e
  | p :: us, kvs, h, k => by
    rcases h.inv with ⟨e, _⟩ | ⟨k0, v0, d0, us', kvs', e, rfl, a, t⟩
    · cases e
    · cases e
      obtain ⟨i1, i2, i3⟩ := HKV.val t k
      by_cases hk : k0 = k
      · subst hk
        have e1 : valV ((k0, v0) :: us) k0 = some v0 := valV_pos rfl
        have e2 : valD ((k0, d0) :: kvs') k0 = some d0 := by simp [valD, List.find?_cons]
        rw [e1, e2]
        exact ⟨fun v e => by cases e; exact ⟨_, rfl, a⟩, fun d e => by cases e; exact ⟨_, rfl, a⟩, by simp⟩
      · have e1 : valV ((k0, v0) :: us) k = valV us k := valV_neg hk
        have e2 : valD ((k0, d0) :: kvs') k = valD kvs' k := by simp [valD, List.find?_cons, hk]
        rw [e1, e2]
        exact ⟨i1, i2, i3⟩
theorem HKV.any {us : List (κ × V)} {kvs : List (κ × DV)} (h : HKV K F us kvs) (k : κ) : (us.any fun kv => decide (kv.1 = k)) = kvs.any fun kv => decide (kv.1 = k) := by
  have e1 : (us.any fun kv => decide (kv.1 = k)) = (us.map (·.1)).any fun x => decide (x = k) := by rw [List.any_map]; rfl
  have e2 : (kvs.any fun kv => decide (kv.1 = k)) = (kvs.map (·.1)).any fun x => decide (x = k) := by rw [List.any_map]; rfl
  rw [e1, e2, h.1]
theorem HKV.repl {k : κ} {v : V} {d : DV} (hd : Hold K F v d) : ∀ {us : List (κ × V)} {kvs : List (κ × DV)}, HKV K F us kvs → HKV K F (us.map fun kv => if kv.1 = k then (kv.1, v) else kv) (kvs.map fun kv => if kv.1 = k then (kv.1, d) else kv)
  | [], kvs, h => by
    rcases h.inv with ⟨_, rfl⟩ | ⟨_, _, _, _, _, e, _⟩
    · exact .nil
    · cases e
  | p :: us, kvs, h => by
    rcases h.inv with ⟨e, _⟩ | ⟨k0, v0, d0, us', kvs', e, rfl, a, t⟩
    · cases e
    · cases e
      rw [List.map_cons, List.map_cons]
      by_cases hk : k0 = k
      · subst hk
        rw [if_pos rfl, if_pos rfl]
        exact .cons hd (HKV.repl hd t)
      · rw [if_neg hk, if_neg hk]
        exact .cons a (HKV.repl hd t)
theorem HKV.put {us : List (κ × V)} {kvs : List (κ × DV)} (h : HKV K F us kvs) (k : κ) {v : V} {d : DV} (hd : Hold K F v d) : HKV K F (putK us k v) (putD kvs k d) := by
  rw [putK_def]
  unfold putD
  rw [h.any k]
  split
  · exact h.repl hd
  · exact h.append (.cons hd .nil)
end
/-- a key -/
def DV.key : DV → Option Key
  | .int i => some (.inl i)
  | .str x => some (.inr x)
  | _ => none
def keys? : List DV → Option (List Key)
  | [] => some []
  | d :: ds => match d.key, keys? ds with
    | some k, some ks => some (k :: ks)
    | _, _ => none
def DV.tkey : DV → Option (List Key)
  | .tup xs => keys? xs
  | _ => none
section
variable {K : PySem.W.Frag} {F H : Hp} {v : V}
theorem Hold.key {d : DV} {k : Key} (h : Hold K F v d) (e : d.key = some k) : v = kV k := by
  cases h <;> first | (cases e; rfl) | cases e
theorem keys_of : ∀ {vs : List V} {ds : List DV} {ks : List Key}, HoldAll K F vs ds → keys? ds = some ks → vs = ks.map kV
  | _, _, _, .nil, e => by cases e; rfl
  | _, _, _, .cons (d := d) (ds := ds) h t, e => by
    unfold keys? at e
    split at e
    · rename_i k ks e1 e2
      cases e
      rw [h.key e1, keys_of t e2]
      rfl
    · cases e
theorem Hold.tkey {d : DV} {ks : List Key} (h : Hold K F v d) (e : d.tkey = some ks) : ∃ b, v = .ref b ∧ F b = some (.tup (ks.map kV)) := by
  cases h with
  | tup ha hx =>
    refine ⟨_, rfl, ?_⟩
    rw [← keys_of hx e]
    exact ha
  | _ => cases e
end
/-- what a dict holds at a key -/
def lookD : DV → DV → Option (Option DV)
  | .dk kvs, y => y.key.map fun k => valD kvs k
  | .dt kvs, y => y.tkey.map fun k => valD kvs k
  | _, _ => none
theorem lookD_ok {K : PySem.W.Frag} {F H : Hp} {n : Nat} {v u : V} {x y : DV} {r : Option DV} (s : Same F H) (h : View K F H n v x) (hy : Hold K F u y) (e : lookD x y = some r) :
    ∃ a o, v = .ref a ∧ DGet H a u o ∧ (∀ w, o = some w → ∃ d, r = some d ∧ Hold K F w d) ∧ (∀ d, r = some d → ∃ w, o = some w ∧ Hold K F w d) ∧ o.isSome = r.isSome := by
  have fin : ∀ {o : Option V} {r : Option DV}, (∀ w, o = some w → ∃ d, r = some d ∧ Hold K F w d) → (o = none ↔ r = none) → o.isSome = r.isSome := fun {o r} h1 h2 => by
    cases o with
    | none => rw [h2.mp rfl]; rfl
    | some w => obtain ⟨d, e, _⟩ := h1 w rfl; rw [e]; rfl
  cases x with
  | dk kvs =>
    obtain ⟨a, us, rfl, h1, h2, h3⟩ := h.dk s
    obtain ⟨k, ek, e2⟩ := Option.map_eq_some_iff.mp e
    subst e2
    obtain ⟨i1, i2, i3⟩ := HKV.val (K := K) (F := F) (us := us) (kvs := kvs) ⟨h2, h3⟩ k
    exact ⟨a, valV us k, rfl, .inl ⟨us, k, h1, hy.key ek, rfl⟩, i1, i2, fin i1 i3⟩
  | dt kvs =>
    obtain ⟨a, us, rfl, h1, h2, h3⟩ := h.dt s
    obtain ⟨k, ek, e2⟩ := Option.map_eq_some_iff.mp e
    subst e2
    obtain ⟨b, rfl, hb⟩ := hy.tkey ek
    obtain ⟨i1, i2, i3⟩ := HKV.val (K := K) (F := F) (us := us) (kvs := kvs) ⟨h2, h3⟩ k
    exact ⟨a, valV us k, rfl, .inr ⟨us, k, b, h1, rfl, s _ _ hb, rfl⟩, i1, i2, fin i1 i3⟩
  | _ => cases e

/-! ### x[i] -/
def optP {α : Type} (o : Option α) (Q : α → Prop) : Prop := match o with
  | some d => Q d
  | none => False
theorem optP_mono {α : Type} {o : Option α} {Q Q' : α → Prop} (q : ∀ d, Q d → Q' d) (h : optP o Q) : optP o Q' := by
  cases o with
  | none => exact h
  | some d => exact q _ h
theorem optP_some {α : Type} {o : Option α} {Q : α → Prop} (h : optP o Q) : ∃ d, o = some d ∧ Q d := by
  cases o with
  | none => exact h.elim
  | some d => exact ⟨d, rfl, h⟩
def ixD : DV → DV → Option DV
  | .lst xs, .int i => atI xs i
  | .tup xs, .int i => atI xs i
  | .ktup xs, .int i => atI xs i
  | .str z, .int i => if z.length ≤ LINE then (atI z.cps.toList i).map fun c => .str ⟨#[c]⟩ else none
  | .dk kvs, y => (lookD (.dk kvs) y).bind id
  | .dt kvs, y => (lookD (.dt kvs) y).bind id
  | _, _ => none
def rIxAll (K : PySem.W.Frag) : R2 := fun x y H Q => rIx K x y H Q ∨ ∃ a v, x = .ref a ∧ DGet H a y (some v) ∧ Q v H
theorem ix_dict {X : Cx} (hu : X.A.units + 1 < cLine) : IxR X (fun x y H Q => ∃ a v, x = .ref a ∧ DGet H a y (some v) ∧ Q v H) := fun {value slice pins s σ H x y v u Q} I rx ry ⟨a, z, ex, g, q⟩ hs => by
  subst ex
  cases rx
  have T := dict_typeIs I g
  have got := d_getItem (E := X.xe) hu I g ry fun w' s3 J r => (⟨z, H, J, r, q⟩ : EP X pins σ Q w' s3)
  have item : wpAny (model X.prog X.w) X.A (subscripted slice false (.ref a) u) (fun r s₃ => wpAny (model X.prog X.w) X.A (letTemporaryGo value (.ref a) r >>= fun _ => pure r) (EP X pins σ Q) X.xe s₃) X.xe s := by
    rw [hs]
    refine wpAny_operating (wpAny_mono got (fun r s3 z => ?_) fun _ _ z => z)
    exact wpAny_bind (wpAny_letTemporaryGo (wpAny_pure z))
  unfold subscriptTail
  refine wpAny_bind ?_
  rw [getitemInPython_of_ne T.not_modules]
  refine wpAny_bind (wpAny_specialOf T PySem.F.slot_dict_getitem.lookup ?_)
  first
    | exact wpAny_bind item
    | exact wpAny_pure (wpAny_bind item)
    | exact wpAny_bind (wpAny_pure (wpAny_bind item))
theorem ix_all {X : Cx} (hu : X.A.units + 1 < cLine) : IxR X (rIxAll X.K) := ix_seq.or (ix_dict hu)
theorem atI_hold {K : PySem.W.Frag} {F : Hp} {vs : List V} {xs : List DV} (h : HoldAll K F vs xs) {i : Int} {d : DV} (e : atI xs i = some d) : ∃ v, atI vs i = some v ∧ Hold K F v d := by
  unfold atI at e ⊢
  rw [h.length]
  cases q : ixN xs.length i with
  | none => rw [q] at e; cases e
  | some j =>
    rw [q] at e
    obtain ⟨v, e1, h1⟩ := h.of_get (i := j) e
    exact ⟨v, e1, h1⟩
theorem ixD_ok {K : PySem.W.Frag} {F H : Hp} {n : Nat} {v u : V} {x y d : DV} (s : Same F H) (h : View K F H n v x) (hy : Hold K F u y) {R : VK} (e : ixD x y = some d) (k : ∀ w, Hold K F w d → R w H) : rIxAll K v u H R := by
  have dict : lookD x y = some (some d) → rIxAll K v u H R := fun g => by
    obtain ⟨a, o, rfl, g1, _, g3, _⟩ := lookD_ok s h hy g
    obtain ⟨w, rfl, hw⟩ := g3 d rfl
    exact .inr ⟨a, w, rfl, g1, k _ hw⟩
  cases x with
  | lst xs =>
    obtain ⟨a, vs, rfl, h1, h2⟩ := h.lst s
    cases y with
    | int i =>
      cases hy
      obtain ⟨w, e1, hw⟩ := atI_hold h2 e
      exact .inl (.inl ⟨a, vs, i, w, rfl, rfl, SqL.of h1, e1, k _ hw⟩)
    | _ => cases e
  | tup xs =>
    obtain ⟨a, vs, rfl, h1, h2⟩ := h.tup
    cases y with
    | int i =>
      cases hy
      obtain ⟨w, e1, hw⟩ := atI_hold h2 e
      exact .inl (.inr (.inl ⟨a, vs, i, w, rfl, rfl, SqT.of (s _ _ h1), e1, k _ hw⟩))
    | _ => cases e
  | ktup xs =>
    obtain ⟨a, vs, rfl, h1, h2⟩ := h.ktup
    cases y with
    | int i =>
      cases hy
      obtain ⟨w, e1, hw⟩ := atI_hold h2 e
      exact .inl (.inr (.inl ⟨a, vs, i, w, rfl, rfl, sqT_mono (Ext.of s) h1, e1, k _ hw⟩))
    | _ => cases e
  | str z =>
    have e0 := h.str
    subst e0
    cases y with
    | int i =>
      cases hy
      have e : (if z.length ≤ LINE then (atI z.cps.toList i).map fun c => DV.str ⟨#[c]⟩ else none) = some d := e
      by_cases hz : z.length ≤ LINE
      · rw [if_pos hz] at e
        obtain ⟨c, e1, e2⟩ := Option.map_eq_some_iff.mp e
        subst e2
        exact .inl (.inr (.inr ⟨z, i, c, rfl, rfl, by rw [line_eq]; exact hz, e1, k _ (.str _)⟩))
      · rw [if_neg hz] at e
        cases e
    | _ => cases e
  | dk kvs =>
    obtain ⟨o, e1, e2⟩ := Option.bind_eq_some_iff.mp (show (lookD (.dk kvs) y).bind id = some d by cases y <;> exact e)
    have e2 : o = some d := e2
    subst e2
    exact dict e1
  | dt kvs =>
    obtain ⟨o, e1, e2⟩ := Option.bind_eq_some_iff.mp (show (lookD (.dt kvs) y).bind id = some d by cases y <;> exact e)
    have e2 : o = some d := e2
    subst e2
    exact dict e1
  | _ => cases y <;> cases e
def dIx (fa fb : DD) : DD := fun env Q => fa env fun x e1 => fb e1 fun y e2 => optP (ixD x y) fun d => Q d e2
/-- a name's items: the name's slot is read where the index is known -/
def dIxN (j : Nat) (fb : DD) : DD := fun env Q => (match env[j]? with
  | some (.d _) => True
  | some (.o _ _) => True
  | _ => False) ∧ fb env fun y e2 => optP ((e2[j]?).bind Cell.view) fun x => optP (ixD x y) fun d => Q d e2
theorem bind_view {e : List Cell} {j : Nat} {x : DV} (h : (e[j]?).bind Cell.view = some x) : ∃ c, e[j]? = some c ∧ c.view = some x := by
  cases q : e[j]? with
  | none => rw [q] at h; cases h
  | some c => rw [q] at h; exact ⟨c, rfl, h⟩
section
variable {X : Cx} {Z : ZX} {a b : Expr} {ca cb : Nat} {fa fb : DD} {pos : Pos}
theorem pdIx (hu : X.A.units + 1 < cLine) (ha : PEd X Z a ca fa) (hb : PEd X Z b cb fb) (hs : PlainIx b) : PEd X Z (.Subscript a b pos) (ca + cb) (dIx fa fb) := by
  refine ⟨fun env Q Q' q h => ha.mono _ _ _ (fun x e1 h1 => hb.mono _ _ _ (fun y e2 h2 => optP_mono (fun d => q _ _) h2) h1) h, PE_imp (pe_ix (ix_all hu) ha.run hb.run hs) fun σ H Q ⟨B, F, n, env, hn, S, h⟩ => ?_⟩
  refine bindD ha.mono (by omega) S h fun x e1 v H1 F1 h1 S1 x1 hv => bindD hb.mono (by omega) S1 h1 fun y e2 u H2 F2 h2 S2 x2 hu2 => ?_
  rw [Nat.add_assoc] at S2
  obtain ⟨d, e, q⟩ := optP_some h2
  exact ixD_ok (n := n) S2.same (.inl (hv.mono x2)) hu2 e fun w hw => q w H2 F2 S2 (x1.trans x2) hw
theorem pdIxN (j : Nat) {x : Str} {p : Pos} (hu : X.A.units + 1 < cLine) (hb : PEd X Z b cb fb) (hs : PlainIx b) (hN : X.N[j]? = some x := by rfl) (hv : Vis X.env.scope x := by first | exact Or.inl rfl | exact Or.inr (Or.inl rfl) | exact Or.inr (Or.inr rfl)) (hd : (x == ("__debug__" : Str)) = false := by decide)
    (hcd : (x == ("__classdict__" : Str)) = false := by decide) : PEd X Z (.Subscript (.Name x p) b pos) cb (dIxN j fb) := by
  refine ⟨fun env Q Q' q h => ⟨h.1, hb.mono _ _ _ (fun y e2 h2 => optP_mono (fun x => optP_mono fun d => q _ _) h2) h.2⟩, PE_imp (pe_ix (ix_all hu) (pe_var hN hv hd hcd) hb.run hs) fun σ H Q ⟨B, F, n, env, hn, S, h0, h⟩ => ?_⟩
  · have hv0 : ∃ v, σ[j]? = some (some v) := by
      split at h0
      · rename_i z e
        obtain ⟨v, e1, _⟩ := S.dat e
        exact ⟨v, e1⟩
      · rename_i z w e
        obtain ⟨a, e1, _⟩ := S.own e
        exact ⟨_, e1⟩
      · exact h0.elim
    obtain ⟨v, ev⟩ := hv0
    refine ⟨v, ev, bindD hb.mono hn S h fun y e2 u H2 F2 h2 S2 x2 hu2 => ?_⟩
    obtain ⟨x, e, h2⟩ := optP_some h2
    obtain ⟨d, ed, q⟩ := optP_some h2
    obtain ⟨c, ec, hc⟩ := bind_view e
    obtain ⟨v', e1, vw⟩ := S2.view ec hc
    rw [ev] at e1
    cases e1
    exact ixD_ok S2.same vw hu2 ed fun w hw => q w H2 F2 S2 x2 hw
end
end DL
set_option maxRecDepth 100000
set_option maxHeartbeats 4000000
namespace DL
open PySem PySem.Spec PyProof.Rows L2

/-! ### zip, enumerate over lists and tuples in any mix -/
/-- the object at a is a list (b), or a tuple -/
def SqB (b : Bool) (K : PySem.W.Frag) (H : Hp) (a : Addr) (xs : List V) : Prop := if b = true then SqL K H a xs else SqT K H a xs
/-! ### by data -/
def zipT (xs ys : List DV) : List DV := (xs.zip ys).map fun p => .tup [p.1, p.2]
def enumT (k : Nat) : List DV → List DV
  | [] => []
  | x :: xs => .tup [.int (k : Nat), x] :: enumT (k + 1) xs
def SqD (K : PySem.W.Frag) (F : Hp) (b : Bool) (a : Addr) (vs : List V) : Prop := SqB b K F a vs
section
variable {K : PySem.W.Frag} {F : Hp}
def iZipD (fa fb : DD) : DI := fun env Q => fa env fun x e1 => fb e1 fun y e2 => optP (dItems x) fun xs => optP (dItems y) fun ys => Q (zipT xs ys) e2
def iEnumD (fa : DD) : DI := fun env Q => fa env fun x e1 => optP (dItems x) fun xs => Q (enumT 0 xs) e1
end
end DL
set_option maxRecDepth 100000
set_option maxHeartbeats 4000000
namespace DL
open PySem PySem.Spec PyProof.Rows L2

/-! ### expressions whose value is read at once -/
def tDv (K : PySem.W.Frag) (Z : ZX) (c : Nat) (f : DD) : TE := fun σ H Q => ∃ B F n env, n + c ≤ Z.M ∧ SOk B K Z F H n σ env ∧ f env fun r env' => ∀ v H' F', SOk B K Z F' H' (n + c) σ env' → Ext F F' → View K F' H' (n + c) v r → Q v H'
structure PVd (X : Cx) (Z : ZX) (e : Expr) (c : Nat) (f : DD) : Prop where
  mono : MonoC f
  run : PE X e (tDv X.K Z c f)
section
variable {K : PySem.W.Frag} {Z : ZX} {c : Nat} {B : Base} {F H : Hp} {n : Nat} {σ : L2.St} {env : List Cell}
theorem bindV {f : DD} {G : DV → List Cell → Prop} {R : VK} (m : MonoC f) (hn : n + c ≤ Z.M) (S : SOk B K Z F H n σ env) (h : f env G)
    (k : ∀ d env' v H' F', G d env' → SOk B K Z F' H' (n + c) σ env' → Ext F F' → View K F' H' (n + c) v d → R v H') : tDv K Z c f σ H R :=
  ⟨B, F, n, env, hn, S, m _ _ _ (fun d e g v H' F' S' x hh => k d e v H' F' g S' x hh) h⟩
end
def dVw (f : DE) : DD := fun env Q => f env fun r e => optP r.view fun d => Q d e
def dPeek (j : Nat) : DD := fun env Q => optP ((env[j]?).bind Cell.view) fun d => Q d env
section
variable {X : Cx} {Z : ZX} {e : Expr} {c : Nat}
theorem PEd.vw {f : DD} (h : PEd X Z e c f) : PVd X Z e c f := ⟨h.mono, PE_imp h.run fun σ H Q ⟨B, F, n, env, hn, S, g⟩ => bindD h.mono hn S g fun d env' v H' F' q S' x hh => q v H' F' S' x (.inl hh)⟩
theorem PEc.vw {f : DE} (h : PEc X Z e c f) : PVd X Z e c (dVw f) := by
  refine ⟨fun env Q Q' q => h.mono _ _ _ fun r e => optP_mono fun d => q _ _, PE_imp h.run fun σ H Q ⟨B, F, n, env, hn, S, g⟩ => bindC h.mono hn S g fun r env' v H' F' q S' x hh => ?_⟩
  obtain ⟨d, ed, q⟩ := optP_some q
  refine q v H' F' S' x ?_
  cases r with
  | un => cases ed
  | d y =>
    cases ed
    obtain ⟨v', e', h⟩ := hh.1
    cases e'
    exact .inl h
  | o b oc =>
    obtain ⟨a, e', h1, h2, _⟩ := hh.1
    cases e'
    exact .inr ⟨a, oc, rfl, h2, ed⟩
theorem pvName (j : Nat) {x : Str} {pos : Pos} (hN : X.N[j]? = some x := by rfl) (hv : Vis X.env.scope x := by first | exact Or.inl rfl | exact Or.inr (Or.inl rfl) | exact Or.inr (Or.inr rfl)) (hd : (x == ("__debug__" : Str)) = false := by decide)
    (hcd : (x == ("__classdict__" : Str)) = false := by decide) : PVd X Z (.Name x pos) 0 (dPeek j) := by
  refine ⟨fun env Q Q' q g => optP_mono (fun d => q _ _) g, PE_imp (pe_var hN hv hd hcd) fun σ H Q ⟨B, F, n, env, hn, S, g⟩ => ?_⟩
  obtain ⟨d, ed, g⟩ := optP_some g
  obtain ⟨c, ec, hc⟩ := bind_view ed
  obtain ⟨v, e1, vw⟩ := S.view ec hc
  exact ⟨v, e1, g v H F S (Ext.refl _) vw⟩
end

/-! ### built-ins of one argument -/
def Op1 (K : PySem.W.Frag) (r : List V → Hp → VK → Prop) (g : DV → (Cell → Prop) → Prop) : Prop :=
  (∀ x Q Q', (∀ c, Q c → Q' c) → g x Q → g x Q') ∧ ∀ B Z F H n σ env v x Q, SOk B K Z F H n σ env → View K F H n v x →
    g x (fun c => ∀ w H' F', SOk B K Z F' H' n σ env → Ext F F' → Res B K F' H' n σ env w c → Q w H') → r [v] H Q
def dOp1 (g : DV → (Cell → Prop) → Prop) (f : DD) : DE := fun env Q => f env fun x e => g x fun c => Q c e
theorem callR_or {X : Cx} {f : Value} {r1 r2 : List V → Hp → VK → Prop} (h1 : CallR X f r1) (h2 : CallR X f r2) : CallR X f (fun xs H Q => r1 xs H Q ∨ r2 xs H Q) := by
  intro pins s σ H xs us Q I r h
  rcases h with h | h
  · exact h1 pins s σ H xs us Q I r h
  · exact h2 pins s σ H xs us Q I r h
section
variable {X : Cx} {Z : ZX} {x : Str} {a : Expr} {ca : Nat} {f : DD} {r : List V → Hp → VK → Prop} {g : DV → (Cell → Prop) → Prop} {p pos : Pos}
theorem op1_run (hr : Op1 X.K r g) (ha : PVd X Z a ca f) {σ : L2.St} {H : Hp} {Q : VK} (h : tDc X.K Z ca (dOp1 g f) σ H Q) : tDv X.K Z ca f σ H fun v H1 => r [v] H1 Q := by
  obtain ⟨B, F, n, env, hn, S, h⟩ := h
  refine bindV ha.mono hn S h fun d e v H1 F1 h1 S1 x1 hv => ?_
  exact hr.2 B Z F1 H1 (n + ca) σ e v d Q S1 hv (hr.1 _ _ _ (fun c k w H' F' S' x' rr => k w H' F' S' (x1.trans x') rr) h1)
theorem mono_op1 (hr : Op1 X.K r g) (ha : MonoC f) : MonoC (dOp1 g f) := fun env Q Q' q h => ha _ _ _ (fun d e h1 => hr.1 _ _ _ (fun c => q _ _) h1) h
theorem PEc.b1 {id : String} (hr : Op1 X.K r g) (hc : CallR X (.builtin id) r) (hv : bootBuiltins x = some (.builtin id)) (ha : PVd X Z a ca f) (hg : Gl X x) (hm : X.mg x = none) (hn : x ≠ "__name__" := by decide) (hdb : (x == ("__debug__" : Str)) = false := by decide)
    (hs : starEach [a] X.env = (false, eval a X.env) :: starEach [] X.env := by rfl) : PEc X Z (.Call (.Name x p) [a] [] pos) ca (dOp1 g f) :=
  ⟨mono_op1 hr ha.mono, PE_imp (pe_callB hc hg hm hv (pa_cons ha.run pa_nil hs) hn hdb hs) fun σ H Q h => op1_run hr ha h⟩
theorem PEc.b1T {id : String} (hr : Op1 X.K r g) (hc : CallR X (.type id) r) (hv : bootBuiltins x = some (.type id)) (ha : PVd X Z a ca f) (hg : Gl X x) (hm : X.mg x = none) (hn : x ≠ "__name__" := by decide) (hdb : (x == ("__debug__" : Str)) = false := by decide)
    (hs : starEach [a] X.env = (false, eval a X.env) :: starEach [] X.env := by rfl) : PEc X Z (.Call (.Name x p) [a] [] pos) ca (dOp1 g f) :=
  ⟨mono_op1 hr ha.mono, PE_imp (pe_callTy hc hg hm hv (pa_cons ha.run pa_nil hs) hn hdb hs) fun σ H Q h => op1_run hr ha h⟩
end

/-! ### len -/
def lenD : DV → Option Nat
  | .lst xs => some xs.length
  | .klst xs => some xs.length
  | .tup xs => some xs.length
  | .ktup xs => some xs.length
  | .str z => if z.length ≤ sizeLine then some z.length else none
  | .dk kvs => some kvs.length
  | .dt kvs => some kvs.length
  | _ => none
def gLen : DV → (Cell → Prop) → Prop := fun x Q => optP (lenD x) fun k => Q (.d (.int (k : Nat)))
def rLenA (K : PySem.W.Frag) : List V → Hp → VK → Prop := fun xs H Q => (∃ x n, xs = [x] ∧ LenV K x H n ∧ Q (.int (n : Nat)) H) ∨ (∃ a kvs, xs = [V.ref a] ∧ Rd H a (.dK kvs) ∧ Q (.int (kvs.length : Nat)) H) ∨ (∃ a kvs, xs = [V.ref a] ∧ Rd H a (.dT kvs) ∧ Q (.int (kvs.length : Nat)) H)
theorem call_lenA {X : Cx} : CallR X (.builtin "len") (rLenA X.K) :=
  callR_or call_len (callR_or
    (fun pins s σ H vs us Q I rel ⟨a, kvs, e, at_, q⟩ => by
      subst e
      obtain ⟨_, rfl, ru⟩ := vals1 rel
      cases ru
      exact d_len I at_ fun t s' J => ⟨.int (kvs.length : Nat), H, J, ⟨t, rfl⟩, q⟩)
    (fun pins s σ H vs us Q I rel ⟨a, kvs, e, at_, q⟩ => by
      subst e
      obtain ⟨_, rfl, ru⟩ := vals1 rel
      cases ru
      obtain ⟨few, hd, ys, two, dd⟩ := dt_rd I.hok at_
      have same := Paired.length two
      have z := sizeLine_eq
      refine call_len_dictH hd dd (by omega) ?_
      rw [← same]
      exact ⟨.int (kvs.length : Nat), H, I.tok _, ⟨_, rfl⟩, q⟩))
theorem op1Len {K : PySem.W.Frag} : Op1 K (rLenA K) gLen := by
  refine ⟨fun x Q Q' q g => optP_mono (fun k => q _) g, fun B Z F H n σ env v x Q S hv g => ?_⟩
  obtain ⟨k, ek, g⟩ := optP_some g
  have fin := g (.int (k : Nat)) H F S (Ext.refl _) (Res.dat (.int _))
  cases x with
  | lst xs =>
    obtain ⟨a, vs, rfl, h1, h2⟩ := hv.lst S.same
    cases ek
    exact .inl ⟨_, _, rfl, .inl ⟨vs, SqL.of h1, rfl⟩, by rw [h2.length]; exact fin⟩
  | klst xs =>
    obtain ⟨a, vs, rfl, h1, h2⟩ := hv.klst
    cases ek
    exact .inl ⟨_, _, rfl, .inl ⟨vs, sqL_mono (Ext.of S.same) h1, rfl⟩, by rw [h2.length]; exact fin⟩
  | tup xs =>
    obtain ⟨a, vs, rfl, h1, h2⟩ := hv.tup
    cases ek
    exact .inl ⟨_, _, rfl, .inr ⟨vs, SqT.of (S.same _ _ h1), rfl⟩, by rw [h2.length]; exact fin⟩
  | ktup xs =>
    obtain ⟨a, vs, rfl, h1, h2⟩ := hv.ktup
    cases ek
    exact .inl ⟨_, _, rfl, .inr ⟨vs, sqT_mono (Ext.of S.same) h1, rfl⟩, by rw [h2.length]; exact fin⟩
  | str z =>
    have e0 := hv.str
    subst e0
    have ek : (if z.length ≤ sizeLine then some z.length else none) = some k := ek
    by_cases hz : z.length ≤ sizeLine
    · rw [if_pos hz] at ek
      cases ek
      exact .inl ⟨_, _, rfl, ⟨hz, rfl⟩, fin⟩
    · rw [if_neg hz] at ek
      cases ek
  | dk kvs =>
    obtain ⟨a, us, rfl, h1, h2, h3⟩ := hv.dk S.same
    cases ek
    exact .inr (.inl ⟨a, us, rfl, h1, by rw [show us.length = kvs.length by simpa using congrArg List.length h2]; exact fin⟩)
  | dt kvs =>
    obtain ⟨a, us, rfl, h1, h2, h3⟩ := hv.dt S.same
    cases ek
    exact .inr (.inr ⟨a, us, rfl, h1, by rw [show us.length = kvs.length by simpa using congrArg List.length h2]; exact fin⟩)
  | _ => cases ek

/-! ### int, abs, str -/
def gInt : DV → (Cell → Prop) → Prop := fun x Q => match x with
  | .int i => Q (.d (.int i))
  | .bl b => Q (.d (.int (if b then 1 else 0)))
  | _ => False
theorem View.bl {K : PySem.W.Frag} {F H : Hp} {n : Nat} {v : V} {b : Bool} (h : View K F H n v (.bl b)) : v = .bl b := by
  have := h.atom fun oc e => by cases oc <;> cases e
  cases this; rfl
theorem op1Int {K : PySem.W.Frag} : Op1 K (fun xs H Q => (∃ i, xs = [.int i] ∧ Q (.int i) H) ∨ ∃ k, xs = [.bl k] ∧ Q (.int (if k then 1 else 0)) H) gInt := by
  refine ⟨fun x Q Q' q g => ?_, fun B Z F H n σ env v x Q S hv g => ?_⟩
  · cases x <;> first | exact q _ g | exact g
  · cases x with
    | int i => exact .inl ⟨i, by rw [hv.int], g _ H F S (Ext.refl _) (Res.dat (.int _))⟩
    | bl b => exact .inr ⟨b, by rw [hv.bl], g _ H F S (Ext.refl _) (Res.dat (.int _))⟩
    | _ => exact g.elim
def gAbs : DV → (Cell → Prop) → Prop := fun x Q => match x with
  | .int i => Q (.d (.int (if i < 0 then -i else i)))
  | _ => False
theorem op1Abs {K : PySem.W.Frag} : Op1 K (fun xs H Q => ∃ i, xs = [.int i] ∧ Q (.int (if i < 0 then -i else i)) H) gAbs := by
  refine ⟨fun x Q Q' q g => ?_, fun B Z F H n σ env v x Q S hv g => ?_⟩
  · cases x <;> first | exact q _ g | exact g
  · cases x with
    | int i => exact ⟨i, by rw [hv.int], g _ H F S (Ext.refl _) (Res.dat (.int _))⟩
    | _ => exact g.elim
def gStr : DV → (Cell → Prop) → Prop := fun x Q => match x with
  | .int i => i.natAbs.log2 < 1920 ∧ Q (.d (.str (toString i)))
  | _ => False
/-! ### lists of ints, of bools -/
def intsOf : List DV → Option (List Int)
  | [] => some []
  | .int i :: r => (intsOf r).map (i :: ·)
  | _ :: _ => none
def blsOf : List DV → Option (List Bool)
  | [] => some []
  | .bl i :: r => (blsOf r).map (i :: ·)
  | _ :: _ => none
theorem intsOf_some : ∀ {xs : List DV} {ns : List Int}, intsOf xs = some ns → xs = ns.map DV.int
  | [], _, h => by cases h; rfl
  | x :: xs, ns, h => by
    cases x <;> first | (unfold intsOf at h; cases q : intsOf xs with | none => rw [q] at h; cases h | some ms => rw [q] at h; cases h; rw [intsOf_some q]; rfl) | cases h
theorem blsOf_some : ∀ {xs : List DV} {ns : List Bool}, blsOf xs = some ns → xs = ns.map DV.bl
  | [], _, h => by cases h; rfl
  | x :: xs, ns, h => by
    cases x <;> first | (unfold blsOf at h; cases q : blsOf xs with | none => rw [q] at h; cases h | some ms => rw [q] at h; cases h; rw [blsOf_some q]; rfl) | cases h
def gInts (h : List Int → (Cell → Prop) → Prop) : DV → (Cell → Prop) → Prop := fun x Q => match x with
  | .lst xs => optP (intsOf xs) fun ns => h ns Q
  | _ => False
def gBls (h : List Bool → Bool) : DV → (Cell → Prop) → Prop := fun x Q => match x with
  | .lst xs => optP (blsOf xs) fun ns => Q (.d (.bl (h ns)))
  | _ => False
theorem view_ints {K : PySem.W.Frag} {F H : Hp} {n : Nat} {v : V} {xs : List DV} {ns : List Int} (s : Same F H) (h : View K F H n v (.lst xs)) (e : intsOf xs = some ns) : ∃ a, v = .ref a ∧ SqL K H a (ns.map V.int) := by
  obtain ⟨a, vs, rfl, h1, h2⟩ := h.lst s
  rw [intsOf_some e] at h2
  rw [h2.of_ints] at h1
  exact ⟨a, rfl, SqL.of h1⟩
theorem view_bls {K : PySem.W.Frag} {F H : Hp} {n : Nat} {v : V} {xs : List DV} {ns : List Bool} (s : Same F H) (h : View K F H n v (.lst xs)) (e : blsOf xs = some ns) : ∃ a, v = .ref a ∧ SqL K H a (ns.map V.bl) := by
  obtain ⟨a, vs, rfl, h1, h2⟩ := h.lst s
  rw [blsOf_some e] at h2
  rw [h2.of_bls] at h1
  exact ⟨a, rfl, SqL.of h1⟩
theorem op1All {K : PySem.W.Frag} : Op1 K (rAll K) (gBls fun bs => bs.all id) := by
  refine ⟨fun x Q Q' q g => ?_, fun B Z F H n σ env v x Q S hv g => ?_⟩
  · cases x <;> first | exact optP_mono (fun ns => q _) g | exact g
  · cases x with
    | lst xs =>
      obtain ⟨ns, e, g⟩ := optP_some g
      obtain ⟨a, rfl, h⟩ := view_bls S.same hv e
      exact ⟨a, ns, rfl, h, g _ H F S (Ext.refl _) (Res.dat (.bl _))⟩
    | _ => exact g.elim
/-! ### list(..), tuple(..), dict(..) -/
def keyDV : Key → DV
  | .inl i => .int i
  | .inr x => .str x
theorem hold_key {K : PySem.W.Frag} {F : Hp} (k : Key) : Hold K F (kV k) (keyDV k) := by
  cases k with
  | inl i => exact .int i
  | inr x => exact .str x
theorem hold_keys {K : PySem.W.Frag} {F : Hp} : ∀ ks : List Key, HoldAll K F (ks.map kV) (ks.map keyDV)
  | [] => .nil
  | k :: ks => .cons (hold_key k) (hold_keys ks)
/-- the items in order -/
def itemsD : DV → Option (List DV)
  | .lst xs => some xs
  | .klst xs => some xs
  | .tup xs => some xs
  | .ktup xs => some xs
  | .dk kvs => some (kvs.map fun kv => keyDV kv.1)
  | .dt kvs => some (kvs.map fun kv => .tup (kv.1.map keyDV))
  | _ => none
def gList : DV → (Cell → Prop) → Prop := fun x Q => optP (itemsD x) fun xs => Q (.o false (.l xs))
def rListA (K : PySem.W.Frag) : List V → Hp → VK → Prop := fun xs H Q => (∃ p ys, xs = [.ref p] ∧ (SqL K H p ys ∨ SqT K H p ys) ∧ ∀ l, H l = none → Q (.ref l) (upd H l (.lst ys))) ∨
  (∃ (a : Addr) (kvs : List (Key × V)), xs = [.ref a] ∧ Rd H a (.dK kvs) ∧ ∀ p, H p = none → Q (.ref p) (upd H p (.lst (kvs.map fun kv => kV kv.1)))) ∨
  (∃ d kvs, xs = [V.ref d] ∧ Rd H d (.dT kvs) ∧ ∀ p bs, H p = none → IsKeys H kvs bs → Q (.ref p) (upd H p (.lst (bs.map V.ref))))
theorem call_listA {X : Cx} (hc : X.calm = true) : CallR X (.type "list") (rListA X.K) := callR_or call_list_of (callR_or (call_listD hc) (call_list_dT hc))
section
variable {B : Base} {K : PySem.W.Frag} {Z : ZX} {F H : Hp} {n : Nat} {σ : L2.St} {env : List Cell}
theorem adopt_keys : ∀ {us : List (List Key × V)} {bs : List Addr} {F : Hp}, SOk B K Z F H n σ env → IsKeys H us bs → ∃ F', SOk B K Z F' H n σ env ∧ Ext F F' ∧ HoldAll K F' (bs.map V.ref) (us.map fun kv => DV.tup (kv.1.map keyDV))
  | [], _, F, S, .nil => ⟨F, S, Ext.refl _, .nil⟩
  | u :: us, _, F, S, .cons (b := b) h t => by
    obtain ⟨F1, S1, s1, h1⟩ := S.adopt h
    obtain ⟨F2, S2, x2, h2⟩ := adopt_keys (us := us) S1 t
    exact ⟨F2, S2, (Ext.of s1).trans x2, .cons (.tup (x2.tup h1) (hold_keys _)) h2⟩
end
theorem op1List {K : PySem.W.Frag} : Op1 K (rListA K) gList := by
  refine ⟨fun x Q Q' q g => optP_mono (fun k => q _) g, fun B Z F H n σ env v x Q S hv g => ?_⟩
  obtain ⟨k, ek, g⟩ := optP_some g
  have fin : ∀ {F1 : Hp} {vs : List V}, SOk B K Z F1 H n σ env → Ext F F1 → HoldAll K F1 vs k → ∀ l, H l = none → Q (.ref l) (upd H l (.lst vs)) := fun S1 x1 h l hl => by
    obtain ⟨S', r⟩ := new_lst S1 h hl
    exact g _ _ _ S' x1 r
  cases x with
  | lst xs =>
    obtain ⟨a, vs, rfl, h1, h2⟩ := hv.lst S.same
    cases ek
    exact .inl ⟨a, vs, rfl, .inl (SqL.of h1), fin S (Ext.refl _) h2⟩
  | klst xs =>
    obtain ⟨a, vs, rfl, h1, h2⟩ := hv.klst
    cases ek
    exact .inl ⟨a, vs, rfl, .inl (sqL_mono (Ext.of S.same) h1), fin S (Ext.refl _) h2⟩
  | tup xs =>
    obtain ⟨a, vs, rfl, h1, h2⟩ := hv.tup
    cases ek
    exact .inl ⟨a, vs, rfl, .inr (SqT.of (S.same _ _ h1)), fin S (Ext.refl _) h2⟩
  | ktup xs =>
    obtain ⟨a, vs, rfl, h1, h2⟩ := hv.ktup
    cases ek
    exact .inl ⟨a, vs, rfl, .inr (sqT_mono (Ext.of S.same) h1), fin S (Ext.refl _) h2⟩
  | dk kvs =>
    obtain ⟨a, us, rfl, h1, h2, h3⟩ := hv.dk S.same
    cases ek
    refine .inr (.inl ⟨a, us, rfl, h1, fin S (Ext.refl _) ?_⟩)
    rw [show (us.map fun kv => kV kv.1) = (us.map (·.1)).map kV by simp, show (kvs.map fun kv => keyDV kv.1) = (kvs.map (·.1)).map keyDV by simp, h2]
    exact hold_keys _
  | dt kvs =>
    obtain ⟨a, us, rfl, h1, h2, h3⟩ := hv.dt S.same
    cases ek
    refine .inr (.inr ⟨a, us, rfl, h1, fun p bs hp hk => ?_⟩)
    obtain ⟨F1, S1, x1, hh⟩ := adopt_keys S hk
    refine fin S1 x1 ?_ p hp
    rw [show (us.map fun kv => DV.tup (kv.1.map keyDV)) = (us.map (·.1)).map fun k => DV.tup (k.map keyDV) by simp, h2] at hh
    rw [show (kvs.map fun kv => DV.tup (kv.1.map keyDV)) = (kvs.map (·.1)).map fun k => DV.tup (k.map keyDV) by simp]
    exact hh
  | _ => cases ek
def gTuple : DV → (Cell → Prop) → Prop := fun x Q => match x with
  | .lst xs => Q (.d (.tup xs))
  | .tup xs => Q (.d (.tup xs))
  | .ktup xs => Q (.d (.ktup xs))
  | _ => False
theorem op1Tuple {K : PySem.W.Frag} : Op1 K (fun xs H Q => ∃ p ys, xs = [.ref p] ∧ ((SqL K H p ys ∧ ∀ l, H l = none → Q (.ref l) (upd H l (.tup ys))) ∨ (SqT K H p ys ∧ Q (.ref p) H))) gTuple := by
  refine ⟨fun x Q Q' q g => ?_, fun B Z F H n σ env v x Q S hv g => ?_⟩
  · cases x <;> first | exact q _ g | exact g
  · cases x with
    | lst xs =>
      obtain ⟨a, vs, rfl, h1, h2⟩ := hv.lst S.same
      refine ⟨a, vs, rfl, .inl ⟨SqL.of h1, fun l hl => ?_⟩⟩
      obtain ⟨F', S', x', h'⟩ := new_tup S h2 hl
      exact g _ _ F' S' x' (Res.dat h')
    | tup xs =>
      obtain ⟨a, vs, rfl, h1, h2⟩ := hv.tup
      exact ⟨a, vs, rfl, .inr ⟨SqT.of (S.same _ _ h1), g _ _ F S (Ext.refl _) (Res.dat (.tup h1 h2))⟩⟩
    | ktup xs =>
      obtain ⟨a, vs, e, h1, h2⟩ := hv.ktup
      have hh := hv.atom fun oc e => by cases oc <;> cases e
      exact ⟨a, vs, by rw [e], .inr ⟨sqT_mono (Ext.of S.same) h1, g _ _ F S (Ext.refl _) (Res.dat (by rw [← e]; exact hh))⟩⟩
    | _ => exact g.elim
section
variable {X : Cx} {Z : ZX} {a : Expr} {ca : Nat} {f : DD} {p pos : Pos}
theorem pcLen (hg : Gl X "len") (hm : X.mg "len" = none) (ha : PVd X Z a ca f) (hs : starEach [a] X.env = (false, eval a X.env) :: starEach [] X.env := by rfl) : PEc X Z (.Call (.Name "len" p) [a] [] pos) ca (dOp1 gLen f) := PEc.b1 op1Len call_lenA (by decide +kernel) ha hg hm (hs := hs)
theorem pcInt (hg : Gl X "int") (hm : X.mg "int" = none) (ha : PVd X Z a ca f) (hs : starEach [a] X.env = (false, eval a X.env) :: starEach [] X.env := by rfl) : PEc X Z (.Call (.Name "int" p) [a] [] pos) ca (dOp1 gInt f) := PEc.b1T op1Int call_int1 (by decide +kernel) ha hg hm (hs := hs)
theorem pcAbs (hg : Gl X "abs") (hm : X.mg "abs" = none) (ha : PVd X Z a ca f) (hs : starEach [a] X.env = (false, eval a X.env) :: starEach [] X.env := by rfl) : PEc X Z (.Call (.Name "abs" p) [a] [] pos) ca (dOp1 gAbs f) := PEc.b1 op1Abs call_abs (by decide +kernel) ha hg hm (hs := hs)
theorem pcAll (hg : Gl X "all") (hm : X.mg "all" = none) (ha : PVd X Z a ca f) (hs : starEach [a] X.env = (false, eval a X.env) :: starEach [] X.env := by rfl) (hc : X.calm = true := by rfl) : PEc X Z (.Call (.Name "all" p) [a] [] pos) ca (dOp1 (gBls fun bs => bs.all id) f) := PEc.b1 op1All (cr_all hc) (by decide +kernel) ha hg hm (hs := hs)
theorem pcList (hg : Gl X "list") (hm : X.mg "list" = none) (ha : PVd X Z a ca f) (hs : starEach [a] X.env = (false, eval a X.env) :: starEach [] X.env := by rfl) (hc : X.calm = true := by rfl) : PEc X Z (.Call (.Name "list" p) [a] [] pos) ca (dOp1 gList f) := PEc.b1T op1List (call_listA hc) (by decide +kernel) ha hg hm (hs := hs)
theorem pcTuple (hg : Gl X "tuple") (hm : X.mg "tuple" = none) (ha : PVd X Z a ca f) (hs : starEach [a] X.env = (false, eval a X.env) :: starEach [] X.env := by rfl) : PEc X Z (.Call (.Name "tuple" p) [a] [] pos) ca (dOp1 gTuple f) := PEc.b1T op1Tuple call_tuple_of (by decide +kernel) ha hg hm (hs := hs)
end
end DL
set_option maxRecDepth 100000
set_option maxHeartbeats 4000000
namespace DL
open PySem PySem.Spec PyProof.Rows L2

/-! ### rows of expressions, displays -/
def aNil : DA := fun env Q => Q [] env
def aCons (f : DD) (g : DA) : DA := fun env Q => f env fun x e => g e fun xs e2 => Q (x :: xs) e2
section
variable {X : Cx} {Z : ZX} {e a b : Expr} {es : List Expr} {c cs ca cb : Nat} {f fa fb : DD} {g : DA} {pos : Pos}
theorem paNil : PAd X Z [] 0 aNil := ⟨fun _ _ _ q h => q _ _ h, PA_imp pa_nil fun σ H Q ⟨B, F, n, env, hn, S, h⟩ => h [] H F S (Ext.refl _) .nil⟩
theorem paCons (ha : PEd X Z e c f) (hr : PAd X Z es cs g) (hs : starEach (e :: es) X.env = (false, eval e X.env) :: starEach es X.env := by rfl) : PAd X Z (e :: es) (c + cs) (aCons f g) := by
  refine ⟨fun env Q Q' q h => ha.mono _ _ _ (fun x e h => hr.mono _ _ _ (fun as e2 => q _ _) h) h, PA_imp (pa_cons ha.run hr.run hs) fun σ H Q ⟨B, F, n, env, hn, S, h⟩ => ?_⟩
  refine bindD ha.mono (by omega) S h fun x e1 v H1 F1 h1 S1 x1 hv => ?_
  refine bindA hr.mono (by omega) S1 h1 fun xs e2 vs H2 F2 h2 S2 x2 hvs => ?_
  rw [Nat.add_assoc] at S2
  exact h2 _ H2 F2 S2 (x1.trans x2) (.cons (hv.mono x2) hvs)
def dTup (g : DA) : DD := fun env Q => g env fun xs e => xs.length ≤ 1000 ∧ Q (.tup xs) e
theorem pdTup {x1 : Nat} (h : PAd X Z es c g) : PEd X Z (.Tuple es x1 pos) c (dTup g) := by
  refine ⟨fun env Q Q' q k => h.mono _ _ _ (fun xs e k => ⟨k.1, q _ _ k.2⟩) k, PE_imp (pe_tup h.run) fun σ H Q ⟨B, F, n, env, hn, S, k⟩ => bindA h.mono hn S k fun xs e1 vs H1 F1 k1 S1 x1 hv => ?_⟩
  refine ⟨by rw [hv.length, sizeLine_eq]; have := k1.1; omega, fun p hp => ?_⟩
  obtain ⟨F', S', x', h'⟩ := new_tup S1 hv hp
  exact k1.2 _ _ F' S' (x1.trans x') h'
def dLst (g : DA) : DE := fun env Q => g env fun xs e => xs.length ≤ 1000 ∧ Q (.o false (.l xs)) e
theorem pcLst (h : PAd X Z es c g) : PEc X Z (.List es pos) c (dLst g) := by
  refine ⟨fun env Q Q' q k => h.mono _ _ _ (fun xs e k => ⟨k.1, q _ _ k.2⟩) k, PE_imp (pe_lst h.run) fun σ H Q ⟨B, F, n, env, hn, S, k⟩ => bindA h.mono hn S k fun xs e1 vs H1 F1 k1 S1 x1 hv => ?_⟩
  refine ⟨by rw [hv.length, sizeLine_eq]; have := k1.1; omega, fun p hp => ?_⟩
  obtain ⟨S', r⟩ := new_lst S1 hv hp
  exact k1.2 _ _ F1 S' x1 r
end

/-! ### new dicts -/
section
variable {B : Base} {K : PySem.W.Frag} {Z : ZX} {F H : Hp} {n : Nat} {σ : L2.St} {env : List Cell}
theorem new_own (S : SOk B K Z F H n σ env) {oc : OC} {o : HO} {p : Addr} (hp : H p = none) (h : OCOk K F (upd H p o) n p oc) (h1 : oc.one = true := by rfl) :
    SOk B K Z F (upd H p o) n σ env ∧ Res B K F (upd H p o) n σ env (.ref p) (.o false oc) := S.freshOwn hp h h1
end
def dDk : DE := fun env Q => Q (.o false (.k [])) env
def dDt : DE := fun env Q => Q (.o false (.t [])) env
section
variable {X : Cx} {Z : ZX} {pos : Pos}
/-- {} with keys that are tuples -/
theorem pcDt : PEc X Z (.Dict [] [] pos) 0 dDt := ⟨fun _ _ _ q h => q _ _ h, PE_imp pe_dnewT fun σ H Q ⟨B, F, n, env, hn, S, h⟩ p hp => by
  obtain ⟨S', r⟩ := new_own S (oc := .t []) (o := .dT []) hp ⟨[], upd_same, rfl, .nil⟩
  exact h _ _ F S' (Ext.refl _) r⟩
end
/-- a written dict: its pairs by data -/
abbrev DP := List Cell → (List (DV × DV) → List Cell → Prop) → Prop
inductive HoldP (K : PySem.W.Frag) (F : Hp) : List (V × V) → List (DV × DV) → Prop
  | nil : HoldP K F [] []
  | cons {v u : V} {x y : DV} {ps : List (V × V)} {qs : List (DV × DV)} : Hold K F v x → Hold K F u y → HoldP K F ps qs → HoldP K F ((v, u) :: ps) ((x, y) :: qs)
def tDp (K : PySem.W.Frag) (Z : ZX) (c : Nat) (f : DP) : L2.St → Hp → (List (V × V) → Hp → Prop) → Prop := fun σ H Q => ∃ B F n env, n + c ≤ Z.M ∧ SOk B K Z F H n σ env ∧ f env fun r env' => ∀ ps H' F', SOk B K Z F' H' (n + c) σ env' → Ext F F' → HoldP K F' ps r → Q ps H'
structure PPd (X : Cx) (Z : ZX) (pos : Pos) (ks : List (Option Expr)) (vs : List Expr) (c : Nat) (f : DP) : Prop where
  mono : MonoC f
  run : ∃ trs, PPs X pos ks vs trs ∧ ∀ σ H Q, tDp X.K Z c f σ H Q → tPairs trs σ H Q
def ppN : DP := fun env Q => Q [] env
def ppC (fa fb : DD) (g : DP) : DP := fun env Q => fa env fun x e1 => fb e1 fun y e2 => g e2 fun r e3 => Q ((x, y) :: r) e3
def kvsOf : List (DV × DV) → Option (List (Key × DV))
  | [] => some []
  | (x, y) :: r => match x.key, kvsOf r with
    | some k, some kvs => some ((k, y) :: kvs)
    | _, _ => none
def mergeD (kvs more : List (Key × DV)) : List (Key × DV) := more.foldl (fun acc kv => putD acc kv.1 kv.2) kvs
theorem kvs_of {K : PySem.W.Frag} {F : Hp} : ∀ {ps : List (V × V)} {qs : List (DV × DV)} {kvs : List (Key × DV)}, HoldP K F ps qs → kvsOf qs = some kvs → ∃ us : List (Key × V), ps = us.map (fun kv => (kV kv.1, kv.2)) ∧ HKV K F us kvs ∧ us.length = qs.length
  | _, _, _, .nil, e => by cases e; exact ⟨[], rfl, .nil, rfl⟩
  | _, _, _, .cons (x := x) (qs := qs) h1 h2 t, e => by
    unfold kvsOf at e
    split at e
    · rename_i k kvs e1 e2
      cases e
      obtain ⟨us, rfl, h3, h4⟩ := kvs_of t e2
      exact ⟨(k, _) :: us, by rw [h1.key e1]; rfl, .cons h2 h3, by simp [h4]⟩
    · cases e
theorem merge_hold {K : PySem.W.Frag} {F : Hp} : ∀ {more : List (Key × V)} {mored : List (Key × DV)} {us : List (Key × V)} {kvs : List (Key × DV)}, HKV K F us kvs → HKV K F more mored → HKV K F (mergeK us more) (mergeD kvs mored)
  | [], mored, us, kvs, h, g => by
    rcases g.inv with ⟨_, rfl⟩ | ⟨_, _, _, _, _, e, _⟩
    · exact h
    · cases e
  | p :: more, mored, us, kvs, h, g => by
    rcases g.inv with ⟨e, _⟩ | ⟨k0, v0, d0, us', kvs', e, rfl, a, t⟩
    · cases e
    · cases e
      show HKV K F (mergeK (putK us k0 v0) _) (mergeD (putD kvs k0 d0) _)
      exact merge_hold (h.put k0 a) t
def dDisp (g : DP) : DE := fun env Q => g env fun ps e => ps.length ≤ 15 ∧ optP (kvsOf ps) fun kvs => Q (.o false (.k (mergeD [] kvs))) e
section
variable {X : Cx} {Z : ZX} {pos : Pos} {k v : Expr} {ks : List (Option Expr)} {vs : List Expr} {ca cb c : Nat} {fa fb : DD} {g : DP}
theorem ppNil : PPd X Z pos [] [] 0 ppN := ⟨fun _ _ _ q h => q _ _ h, [], pps_nil, fun σ H Q ⟨B, F, n, env, hn, S, h⟩ => h [] H F S (Ext.refl _) .nil⟩
theorem ppCons (hk : PEd X Z k ca fa) (hv : PEd X Z v cb fb) (hr : PPd X Z pos ks vs c g) : PPd X Z pos (some k :: ks) (v :: vs) (ca + cb + c) (ppC fa fb g) := by
  obtain ⟨trs, h1, h2⟩ := hr.run
  refine ⟨fun env Q Q' q h => hk.mono _ _ _ (fun x e1 h => hv.mono _ _ _ (fun y e2 h => hr.mono _ _ _ (fun r e3 => q _ _) h) h) h, _, pps_cons hk.run hv.run h1, fun σ H Q ⟨B, F, n, env, hn, S, h⟩ => ?_⟩
  refine bindD hk.mono (by omega) S h fun x e1 v H1 F1 g1 S1 x1 hx => bindD hv.mono (by omega) S1 g1 fun y e2 u H2 F2 g2 S2 x2 hy => h2 _ _ _ ⟨B, F2, n + ca + cb, e2, by omega, S2, hr.mono _ _ _ (fun r e3 q ps H3 F3 S3 x3 hp => ?_) g2⟩
  rw [show n + ca + cb + c = n + (ca + cb + c) by omega] at S3
  exact q _ H3 F3 S3 ((x1.trans x2).trans x3) (.cons (hx.mono (x2.trans x3)) (hy.mono x3) hp)
/-- {k: v, ..} -/
theorem pcDisp (h : PPd X Z pos ks vs c g) (hall : ks.all (·.isSome) = true := by rfl) (hl : ks.length = vs.length := by rfl) (h0 : ks ≠ [] := by (intro z; cases z)) (h15 : ks.length ≤ 15 := by decide) : PEc X Z (.Dict ks vs pos) c (dDisp g) := by
  obtain ⟨trs, h1, h2⟩ := h.run
  refine ⟨fun env Q Q' q k => h.mono _ _ _ (fun ps e k => ⟨k.1, optP_mono (fun kvs => q _ _) k.2⟩) k, PE_imp (pe_disp h1 hall hl h0 h15) fun σ H Q ⟨B, F, n, env, hn, S, k⟩ p hp => ?_⟩
  obtain ⟨S1, r1⟩ := new_own S (oc := .k []) (o := .dK []) hp ⟨[], upd_same, rfl, .nil⟩
  refine h2 _ _ _ ⟨_, F, n, env, hn, S1.reb, h.mono _ _ _ (fun ps e q vps H2 F2 T2 x2 hps => ?_) k⟩
  obtain ⟨q0, q⟩ := q
  obtain ⟨kvs, ek, q⟩ := optP_some q
  have S2 := S1.unreb T2 rfl x2 (by omega)
  have r2 := r1.wait S1 T2 x2 (by omega)
  obtain ⟨us, rfl, hh, hlen⟩ := kvs_of hps ek
  obtain ⟨a, e1, hF0, hO, hb1, hb2⟩ := r2.1
  cases e1
  have hF : F2 p = none := hF0 p (List.mem_singleton.mpr rfl)
  obtain ⟨us0, hd, hm, hz⟩ := hO
  have hnil : us0 = [] := by
    have := congrArg List.length hm
    simpa using this
  subst hnil
  refine ⟨hd, us, rfl, by omega, ?_⟩
  have hM := merge_hold (K := X.K) (F := F2) HKV.nil hh
  -- the object at p is written
  have h00 : B.H0 p = none := S.fresh0 hp
  have no : ∀ (i : Nat) (b' : Bool) (c' : OC) (a' : Addr), e[i]? = some (.o b' c') → σ[i]? = some (some (.ref a')) → p ∉ fp H2 a' c' := (r2.2.2 _ _ _ rfl rfl p (List.mem_singleton.mpr rfl)).1
  have st := S2.toCore.step (F' := F2) (H' := upd H2 p (.dK (mergeK [] us))) (Ext.refl _) (Nat.le_refl _) fun i b' c' a' ei si x hx => ⟨upd_ne (by rintro rfl; exact no i b' c' a' ei si hx), (S2.toCore.ownAt ei si).1 x hx⟩
  have S3 : SOk B X.K Z F2 (upd H2 p (.dK (mergeK [] us))) (n + c) σ e := by
    refine ⟨⟨fun b u eb => by rw [upd_ne (by rintro rfl; rw [hF] at eb; cases eb)]; exact S2.same _ _ eb, S2.len, st.1, st.2, fun b u eb hb hl => by rw [upd_ne (by rintro rfl; rw [h00] at eb; cases eb)]; exact S2.fr b u eb hb hl, S2.ff, S2.bd, S2.lb, S2.lk, S2.bs, fun b eb => ?_, tabs_keep S2.tb fun b u eb tc => ?_⟩, S2.lnk⟩
    · by_cases z : b = p
      · subst z; rw [upd_same]; rfl
      · rw [upd_ne z]; exact S2.dom b eb
    · rw [upd_ne (by
        rintro rfl
        rw [hd] at eb
        cases eb
        rcases tc with ⟨_, z⟩ | ⟨_, z⟩ <;> cases z)]
      exact eb
  refine q (.ref p) _ F2 S3 x2 (Res.mk (fun x hx => by cases List.mem_singleton.mp hx; exact hF) ⟨mergeK [] us, upd_same, hM.1, hM.2⟩ fun x hx => ⟨fun i b' c' a' ei si => ?_, by cases List.mem_singleton.mp hx; exact .inl h00⟩)
  cases List.mem_singleton.mp hx
  rw [fp_congr (H := H2) fun y hy => upd_ne (by rintro rfl; exact no i b' c' a' ei si hy)]
  exact no i b' c' a' ei si
end

/-! ### objects owned: append, pop, items put -/
def dAppend (j : Nat) (f : DD) : DE := fun env Q => (∃ b xs, env[j]? = some (.o b (.l xs))) ∧ f env fun d e => ∃ b xs, e[j]? = some (.o b (.l xs)) ∧ xs.length < LINE ∧ Q (.d .non) (e.set j (.o b (.l (xs ++ [d]))))
def dPop (j : Nat) : DE := fun env Q => ∃ b xs d, env[j]? = some (.o b (.l xs)) ∧ xs[xs.length - 1]? = some d ∧ Q (.d d) (env.set j (.o b (.l xs.dropLast)))
def dPopAt (j : Nat) (f : DD) : DE := fun env Q => (∃ b xs, env[j]? = some (.o b (.l xs))) ∧ f env fun y e => ∃ b xs i k d, e[j]? = some (.o b (.l xs)) ∧ y = .int i ∧ -(2 ^ 63) ≤ i ∧ i < 2 ^ 63 ∧ ixN xs.length i = some k ∧ xs[k]? = some d ∧ Q (.d d) (e.set j (.o b (.l (xs.eraseIdx k))))
def wPutL (j : Nat) (fe fi : DD) : WS := fun D env => fe env fun d e1 => (∃ b xs, e1[j]? = some (.o b (.l xs))) ∧ fi e1 fun y e2 => ∃ b xs i k, e2[j]? = some (.o b (.l xs)) ∧ y = .int i ∧ ixN xs.length i = some k ∧ D.nx (e2.set j (.o b (.l (xs.set k d))))
def wPutD (j : Nat) (fe fi : DD) : WS := fun D env => fe env fun d e1 => (∃ b c, e1[j]? = some (.o b c)) ∧ fi e1 fun y e2 => (∃ b kvs k, e2[j]? = some (.o b (.k kvs)) ∧ y.key = some k ∧ kvs.length < LINE ∧ D.nx (e2.set j (.o b (.k (putD kvs k d))))) ∨
  ∃ b kvs k, e2[j]? = some (.o b (.t kvs)) ∧ y.tkey = some k ∧ kvs.length < LINE ∧ D.nx (e2.set j (.o b (.t (putD kvs k d))))
section
variable {X : Cx} {Z : ZX} {x : Str} {e i : Expr} {c ci : Nat} {f fi : DD} {p apos cpos pos pos' : Pos}
theorem pcAppend (j : Nat) (he : PEd X Z e c f) (hN : X.N[j]? = some x := by rfl) (hv : Vis X.env.scope x := by first | exact Or.inl rfl | exact Or.inr (Or.inl rfl) | exact Or.inr (Or.inr rfl)) (hd : (x == ("__debug__" : Str)) = false := by decide)
    (hcd : (x == ("__classdict__" : Str)) = false := by decide) (hbase : attributeBase (.Name x p) "append" X.env (eval (.Name x p) X.env) = eval (.Name x p) X.env := by rfl)
    (hline : (apos.endLine == cpos.line) = true := by rfl) (hs : starEach [e] X.env = (false, eval e X.env) :: starEach [] X.env := by rfl) :
    PEc X Z (.Call (.Attribute (.Name x p) "append" apos) [e] [] cpos) c (dAppend j f) := by
  refine ⟨fun env Q Q' q h => ⟨h.1, he.mono _ _ _ (fun d e ⟨b, xs, h1, h2, h3⟩ => ⟨b, xs, h1, h2, q _ _ h3⟩) h.2⟩,
    PE_imp (pe_bm PySem.F.plainAttrs_list PySem.F.slot_list_append PySem.F.type_list_append mt_append (pe_var hN hv hd hcd) (pa_cons he.run pa_nil hs) hbase (by rw [hs]; rfl) hline hs) fun σ H Q ⟨B, F, n, env, hn, S, ⟨b0, xs0, e0⟩, h⟩ => ?_⟩
  obtain ⟨a, ea, hF, ⟨vs, h1, h2⟩, _⟩ := S.own e0
  refine ⟨_, ea, .inl ⟨rfl, vs, SqL.of h1⟩, bindD he.mono hn S h fun d e1 v H1 F1 g S1 x1 hv => ?_⟩
  obtain ⟨b, xs, e2, hl, q⟩ := g
  obtain ⟨a', ea', hF', ⟨vs', h1', h2'⟩, _⟩ := S1.own e2
  rw [ea] at ea'
  cases ea'
  refine ⟨a, vs', v, rfl, rfl, h1', by rw [h2'.length, line_eq]; exact hl, ?_⟩
  exact q .non _ F1 (S1.write e2 ea ⟨vs' ++ [v], upd_same, h2'.append (.one hv)⟩) x1 (Res.dat .non)
theorem pcPopAt (j : Nat) (he : PEd X Z e c f) (hN : X.N[j]? = some x := by rfl) (hv : Vis X.env.scope x := by first | exact Or.inl rfl | exact Or.inr (Or.inl rfl) | exact Or.inr (Or.inr rfl)) (hd : (x == ("__debug__" : Str)) = false := by decide)
    (hcd : (x == ("__classdict__" : Str)) = false := by decide) (hbase : attributeBase (.Name x p) "pop" X.env (eval (.Name x p) X.env) = eval (.Name x p) X.env := by rfl)
    (hline : (apos.endLine == cpos.line) = true := by rfl) (hs : starEach [e] X.env = (false, eval e X.env) :: starEach [] X.env := by rfl) :
    PEc X Z (.Call (.Attribute (.Name x p) "pop" apos) [e] [] cpos) c (dPopAt j f) := by
  refine ⟨fun env Q Q' q h => ⟨h.1, he.mono _ _ _ (fun d e ⟨b, xs, i, k, d, h1, h2, h3, h4, h5, h6, h7⟩ => ⟨b, xs, i, k, d, h1, h2, h3, h4, h5, h6, q _ _ h7⟩) h.2⟩,
    PE_imp (pe_bm PySem.F.plainAttrs_list PySem.F.slot_list_pop PySem.F.type_list_pop mt_popAt (pe_var hN hv hd hcd) (pa_cons he.run pa_nil hs) hbase (by rw [hs]; rfl) hline hs) fun σ H Q ⟨B, F, n, env, hn, S, ⟨b0, xs0, e0⟩, h⟩ => ?_⟩
  obtain ⟨a, ea, hF, ⟨vs, h1, h2⟩, _⟩ := S.own e0
  refine ⟨_, ea, .inl ⟨rfl, vs, SqL.of h1⟩, bindD he.mono hn S h fun y e1 v H1 F1 g S1 x1 hv => ?_⟩
  obtain ⟨b, xs, i, k, d, e2, rfl, l1, l2, hk, ed, q⟩ := g
  cases hv
  obtain ⟨a', ea', hF', ⟨vs', h1', h2'⟩, _⟩ := S1.own e2
  rw [ea] at ea'
  cases ea'
  obtain ⟨w, ew, hw⟩ := h2'.of_get ed
  refine ⟨a, vs', i, k, w, rfl, rfl, h1', l1, l2, by rw [h2'.length]; exact (ixN_seq hk).1, ew, ?_⟩
  exact q w _ F1 (S1.write e2 ea ⟨vs'.eraseIdx k, upd_same, h2'.erase k⟩) x1 (Res.dat hw)
/-- x[i] = e, x a dict owned -/
theorem psPutD (j : Nat) (hu : X.A.units + 1 < cLine) (he : PEd X Z e c f) (hi : PEd X Z i ci fi) (hN : X.N[j]? = some x := by rfl) (hv : Vis X.env.scope x := by first | exact Or.inl rfl | exact Or.inr (Or.inl rfl) | exact Or.inr (Or.inr rfl)) (hd : (x == ("__debug__" : Str)) = false := by decide)
    (hcd : (x == ("__classdict__" : Str)) = false := by decide) (hs : swapsWith e (some (.Subscript (.Name x p) i pos')) pos.line X.env = pure false := by rfl) :
    PSd X Z (.Assign [.Subscript (.Name x p) i pos'] e pos) (c + ci) (wPutD j f fi) := by
  refine ⟨fun D D' env l h => he.mono _ _ _ (fun d e1 h => ⟨h.1, hi.mono _ _ _ (fun y e2 h => h.imp (fun ⟨b, kvs, k, h1, h2, h3, h4⟩ => ⟨b, kvs, k, h1, h2, h3, l.nx _ h4⟩) fun ⟨b, kvs, k, h1, h2, h3, h4⟩ => ⟨b, kvs, k, h1, h2, h3, l.nx _ h4⟩) h.2⟩) h, PS_imp (ps_dput hu (pe_var hN hv hd hcd) hi.run he.run hs) fun D σ H ⟨B, F, n, env, hn, S, h⟩ => ?_⟩
  refine bindD he.mono (by omega) S h fun d e1 v H1 F1 g S1 x1 hvd => ?_
  obtain ⟨⟨b0, c0, e0⟩, g⟩ := g
  obtain ⟨a, ea, hF, _⟩ := S1.own e0
  refine ⟨_, ea, bindD hi.mono (by omega) S1 g fun y e2 u H2 F2 g2 S2 x2 hu2 => ?_⟩
  rcases g2 with ⟨b, kvs, k, e3, hk, hl, q⟩ | ⟨b, kvs, k, e3, hk, hl, q⟩
  · obtain ⟨a', ea', hF', ⟨us, h1', h2', h3'⟩, _⟩ := S2.own e3
    rw [ea] at ea'
    cases ea'
    have hkv : HKV X.K F2 us kvs := ⟨h2', h3'⟩
    have hp := hkv.put k (hvd.mono x2)
    refine ⟨a, _, rfl, .inl ⟨us, k, h1', hu2.key hk, by rw [hkv.length, line_eq]; exact hl, rfl⟩, ?_⟩
    have S3 := S2.write e3 ea (o := .dK (putK us k v)) (c' := .k (putD kvs k d)) ⟨_, upd_same, hp.1, hp.2⟩
    rw [Nat.add_assoc] at S3
    exact q σ _ F2 S3 (x1.trans x2)
  · obtain ⟨a', ea', hF', ⟨us, h1', h2', h3'⟩, _⟩ := S2.own e3
    rw [ea] at ea'
    cases ea'
    have hkv : HKV X.K F2 us kvs := ⟨h2', h3'⟩
    have hp := hkv.put k (hvd.mono x2)
    obtain ⟨b2, eb, hb2⟩ := hu2.tkey hk
    refine ⟨a, _, rfl, .inr ⟨us, k, b2, h1', eb, S2.same _ _ hb2, by rw [hkv.length, line_eq]; exact hl, rfl⟩, ?_⟩
    have S3 := S2.write e3 ea (o := .dT (putK us k v)) (c' := .t (putD kvs k d)) ⟨_, upd_same, hp.1, hp.2⟩
    rw [Nat.add_assoc] at S3
    exact q σ _ F2 S3 (x1.trans x2)
end
end DL
set_option maxRecDepth 100000
set_option maxHeartbeats 4000000
namespace DL
open PySem PySem.Spec PyProof.Rows L2

/-! ### slices -/
def cutD (xs : List DV) (lo hi : Option Int) : List DV := (xs.drop (HT.sIx xs.length 0 lo)).take (HT.sIx xs.length xs.length hi - HT.sIx xs.length 0 lo)
abbrev DO := List Cell → (Option Int → List Cell → Prop) → Prop
def tDo (K : PySem.W.Frag) (Z : ZX) (c : Nat) (f : DO) : TO := fun σ H Q => ∃ B F n env, n + c ≤ Z.M ∧ SOk B K Z F H n σ env ∧ f env fun r env' => ∀ H' F', SOk B K Z F' H' (n + c) σ env' → Ext F F' → Q r H'
structure POd (X : Cx) (Z : ZX) (e : Option Expr) (c : Nat) (f : DO) : Prop where
  mono : MonoC f
  run : PO X e (tDo X.K Z c f)
def oNone : DO := fun env Q => Q none env
def oSome (f : DD) : DO := fun env Q => f env fun d e => match d with
  | .int i => Q (some i) e
  | _ => False
section
variable {K : PySem.W.Frag} {Z : ZX} {c : Nat} {B : Base} {F H : Hp} {n : Nat} {σ : L2.St} {env : List Cell}
end
theorem HoldAll.cut {K : PySem.W.Frag} {F : Hp} {vs : List V} {xs : List DV} (h : HoldAll K F vs xs) (lo hi : Option Int) : HoldAll K F (cutV vs lo hi) (cutD xs lo hi) := by
  unfold cutV cutD
  rw [h.length]
  exact (h.drop _).take _
def gSl : DV → Option Int → Option Int → (Cell → Prop) → Prop := fun x lo hi Q => match x with
  | .lst xs => Q (.o false (.l (cutD xs lo hi)))
  | .tup xs => Q (.d (.tup (cutD xs lo hi)))
  | .ktup xs => (¬ (HT.sIx xs.length 0 lo = 0 ∧ HT.sIx xs.length xs.length hi = xs.length)) ∧ Q (.d (.tup (cutD xs lo hi)))
  | .str z => z.length ≤ sizeLine ∧ Q (.d (.str (cutS z lo hi)))
  | _ => False
def rSlAll (K : PySem.W.Frag) : V → Option Int → Option Int → Hp → VK → Prop := fun x lo hi H Q => rSlL K x lo hi H Q ∨ rSlA K x lo hi H Q ∨ rSlS x lo hi H Q
def dSl (f : DD) (l h : DO) : DE := fun env Q => f env fun x e => l e fun lo e1 => h e1 fun hi e2 => gSl x lo hi fun c => Q c e2
def dSlN (j : Nat) (l h : DO) : DE := fun env Q => (match env[j]? with
  | some (.d _) => True
  | some (.o _ _) => True
  | _ => False) ∧ l env fun lo e1 => h e1 fun hi e2 => optP ((e2[j]?).bind Cell.view) fun x => gSl x lo hi fun c => Q c e2
def dRev (f : DD) : DE := fun env Q => f env fun x e => match x with
  | .lst xs => Q (.o false (.l xs.reverse)) e
  | _ => False
section
variable {X : Cx} {Z : ZX} {e : Expr} {lo hi : Option Expr} {c cl ch : Nat} {f : DD} {l h : DO} {pos p2 : Pos}
theorem pcRev {k : Nat} {p1 p3 : Pos} (he : PVd X Z e c f) : PEc X Z (.Subscript e (.Slice none none (some (.UnaryOp .USub (.Constant (.int 1) k p1) p2)) p3) pos) c (dRev f) := by
  refine ⟨fun env Q Q' q g => he.mono _ _ _ (fun x e g => ?_) g, PE_imp (pe_revL he.run) fun σ H Q ⟨B, F, n, env, hn, S, g⟩ => bindV he.mono hn S g fun x e v H1 F1 g1 S1 x1 hv => ?_⟩
  · cases x <;> first | exact q _ _ g | exact g
  · cases x with
    | lst xs =>
      obtain ⟨a, vs, rfl, h1, h2⟩ := hv.lst S1.same
      refine ⟨a, vs, rfl, SqL.of h1, fun p hp => ?_⟩
      obtain ⟨S', r⟩ := new_lst S1 h2.reverse hp
      exact g1 _ _ F1 S' x1 r
    | _ => exact g1.elim
end

/-! ### comparisons whose right side is read at once -/
def Op2v (K : PySem.W.Frag) (r : R2) (g : DV → DV → (Bool → Prop) → Prop) : Prop :=
  (∀ x y Q Q', (∀ c, Q c → Q' c) → g x y Q → g x y Q') ∧
  ∀ B Z F H n σ env v u x y Q, SOk B K Z F H n σ env → Hold K F v x → View K F H n u y → g x y (fun b => Q (.bl b) H) → r v u H Q
def dCmpV (g : DV → DV → (Bool → Prop) → Prop) (fa fb : DD) : DT := fun env Q => fa env fun x e1 => fb e1 fun y e2 => g x y fun b => Q b e2
def dBlV (t : DT) : DD := fun env Q => t env fun b e => Q (.bl b) e
section
variable {X : Cx} {Z : ZX} {a b : Expr} {ca cb : Nat} {fa fb : DD} {pos : Pos} {op : CmpOp} {r : R2} {g : DV → DV → (Bool → Prop) → Prop}
end
end DL
set_option maxRecDepth 100000
set_option maxHeartbeats 4000000
namespace DL
open PySem PySem.Spec PyProof.Rows L2

/-! ### in, not in -/
def flatD : DV → Bool
  | .non => true
  | .bl _ => true
  | .int _ => true
  | .str _ => true
  | _ => false
def eqF : DV → DV → Bool
  | .non, .non => true
  | .bl a, .bl b => a == b
  | .bl a, .int b => (if a then 1 else 0) == b
  | .int a, .bl b => a == (if b then 1 else 0)
  | .int a, .int b => a == b
  | .str a, .str b => a == b
  | _, _ => false
section
variable {K : PySem.W.Frag} {F : Hp}
end
def xorB (neg b : Bool) : Bool := if neg then !b else b
def inD (x : DV) : DV → Option Bool
  | .dk kvs => x.key.map fun k => (valD kvs k).isSome
  | .dt kvs => x.tkey.map fun k => (valD kvs k).isSome
  | .lst xs => if x.ok 60 = true ∧ (DV.lst xs).ok 60 = true then some (xs.any fun z => eqD z x) else none
  | .tup xs => if flatD x = true ∧ xs.all flatD = true then some (xs.any fun z => eqF z x) else none
  | .ktup xs => if flatD x = true ∧ xs.all flatD = true then some (xs.any fun z => eqF z x) else none
  | .str z => match x with
    | .str y => some (!(Builtin.Str.occurrences z y 0 z.length 1).isEmpty)
    | _ => none
  | _ => none
def gIn (neg : Bool) : DV → DV → (Bool → Prop) → Prop := fun x y Q => optP (inD x y) fun b => Q (xorB neg b)
def rInAll (K : PySem.W.Frag) (neg : Bool) : R2 := fun x y H Q => (∃ a o, y = .ref a ∧ DGet H a x o ∧ Q (.bl (xorB neg o.isSome)) H) ∨
  (∃ d ds, Dp K H x d ∧ Dp K H y (.list ds) ∧ SeqAt.shaped d = true ∧ SeqAt.shaped (.list ds) = true ∧ Q (.bl (xorB neg (ds.any fun z => PyData.eqv z d))) H) ∨ rIn K neg x y H Q ∨
  (∃ i j, x = .str i ∧ y = .str j ∧ Q (.bl (xorB neg (!(Builtin.Str.occurrences j i 0 j.length 1).isEmpty))) H)
section
variable {X : Cx}
end
section
variable {X : Cx} {Z : ZX} {a b c : Expr} {ca cb cc : Nat} {fa fb fc : DD} {pos : Pos}
/-! ### is -/
def isNon : DV → Bool
  | .non => true
  | _ => false
def dIsN (neg : Bool) (f : DD) : DT := fun env Q => f env fun x e => Q (xorB neg (isNon x)) e
theorem isNon_of {K : PySem.W.Frag} {F H : Hp} {n : Nat} {v : V} {d : DV} (h : View K F H n v d) : decide (v = .non) = isNon d := by
  rcases h with h | ⟨a, oc, rfl, _, e⟩
  · cases h <;> rfl
  · cases oc <;> cases e <;> rfl
theorem ptIsN {j : Nat} {p1 : Pos} (ha : PVd X Z a ca fa) : PTd X Z (.Compare a [.Is] [.Constant .none j p1] pos) ca (dIsN false fa) :=
  ⟨fun env Q Q' q h => ha.mono _ _ _ (fun x e => q _ _) h, PT_imp (pt_cmpR op_isN ha.run pe_non (nomark _)) fun σ H Q ⟨B, F, n, env, hn, S, h⟩ => bindV ha.mono hn S h fun x e v H1 F1 h1 S1 x1 hv => ⟨rfl, _, rfl, by rw [isNon_of hv]; exact h1 H1 F1 S1 x1⟩⟩
/-- x is True, x is False, x a bool -/
def gIsB (neg : Bool) : DV → DV → (Bool → Prop) → Prop := fun x y Q => match x, y with
  | .bl a, .bl b => Q (xorB neg (decide (a = b)))
  | _, _ => False
/-! ### a < b < c -/
def dChain (g g' : DV → DV → (Bool → Prop) → Prop) (fa fb fc : DD) : DT := fun env Q => fa env fun x e1 => fb e1 fun y e2 => g x y fun k => if k = true then fc e2 fun z e3 => g' y z fun k => Q k e3 else Q false e2
/-! ### d.get -/
def dGet1 (fa fb : DD) : DD := fun env Q => fa env fun x e1 => fb e1 fun y e2 => optP (lookD x y) fun r => Q (r.getD .non) e2
def dGet2 (fa fb fc : DD) : DD := fun env Q => fa env fun x e1 => fb e1 fun y e2 => fc e2 fun z e3 => optP (lookD x y) fun r => Q (r.getD z) e3
def isDk (env : List Cell) (j : Nat) : Prop := match env[j]? with
  | some (.d (.dk _)) => True
  | some (.d (.dt _)) => True
  | some (.o _ (.k _)) => True
  | some (.o _ (.t _)) => True
  | _ => False
def dGetN1 (j : Nat) (fb : DD) : DD := fun env Q => isDk env j ∧ fb env fun y e2 => optP ((e2[j]?).bind Cell.view) fun x => optP (lookD x y) fun r => Q (r.getD .non) e2
def dGetN2 (j : Nat) (fb fc : DD) : DD := fun env Q => isDk env j ∧ fb env fun y e2 => fc e2 fun z e3 => optP ((e3[j]?).bind Cell.view) fun x => optP (lookD x y) fun r => Q (r.getD z) e3
theorem isDk_at {B : Base} {K : PySem.W.Frag} {F H : Hp} {n : Nat} {σ : L2.St} {env : List Cell} {j : Nat} (S : SOk B K Z F H n σ env) (h : isDk env j) : ∃ a, σ[j]? = some (some (.ref a)) ∧ IsD H a := by
  unfold isDk at h
  split at h
  · rename_i kvs e
    obtain ⟨v, e1, hv⟩ := S.dat e
    cases hv with
    | dk h1 _ _ => exact ⟨_, e1, .inl ⟨_, (Ext.of S.same).rd h1⟩⟩
  · rename_i kvs e
    obtain ⟨v, e1, hv⟩ := S.dat e
    cases hv with
    | dt h1 _ _ => exact ⟨_, e1, .inr ⟨_, (Ext.of S.same).rd h1⟩⟩
  · rename_i b kvs e
    obtain ⟨a, e1, _, ⟨us, h1, _⟩, _⟩ := S.own e
    exact ⟨a, e1, .inl ⟨us, .inl h1⟩⟩
  · rename_i b kvs e
    obtain ⟨a, e1, _, ⟨us, h1, _⟩, _⟩ := S.own e
    exact ⟨a, e1, .inr ⟨us, .inl h1⟩⟩
  · exact h.elim
theorem getD_hold {K : PySem.W.Frag} {F : Hp} {o : Option V} {r : Option DV} {v : V} {d : DV} (h1 : ∀ w, o = some w → ∃ d, r = some d ∧ Hold K F w d) (h2 : o.isSome = r.isSome) (h : Hold K F v d) : Hold K F (o.getD v) (r.getD d) := by
  cases o with
  | none =>
    cases r with
    | none => exact h
    | some d => cases h2
  | some w =>
    obtain ⟨d', rfl, h'⟩ := h1 w rfl
    exact h'
theorem pdGetN2 (j : Nat) {x : Str} {p apos cpos : Pos} (hu : X.A.units + 1 < cLine) (hb : PEd X Z b cb fb) (hc : PEd X Z c cc fc) (m : M2 X (.Name x p) "get" apos b c cpos) (hN : X.N[j]? = some x := by rfl) (hv : Vis X.env.scope x := by first | exact Or.inl rfl | exact Or.inr (Or.inl rfl) | exact Or.inr (Or.inr rfl)) (hd : (x == ("__debug__" : Str)) = false := by decide)
    (hcd : (x == ("__classdict__" : Str)) = false := by decide) : PEd X Z (.Call (.Attribute (.Name x p) "get" apos) [b, c] [] cpos) (cb + cc) (dGetN2 j fb fc) := by
  refine ⟨fun env Q Q' q h => ⟨h.1, hb.mono _ _ _ (fun y e2 h => hc.mono _ _ _ (fun z e3 h => optP_mono (fun x => optP_mono fun r => q _ _) h) h) h.2⟩, PE_imp (pe_dget2 hu (pe_var hN hv hd hcd) hb.run hc.run m) fun σ H Q ⟨B, F, n, env, hn, S, h0, h⟩ => ?_⟩
  obtain ⟨a, ea, hD⟩ := isDk_at S h0
  refine ⟨_, ea, a, rfl, hD, bindD hb.mono (by omega) S h fun y e2 u H2 F2 h2 S2 x2 hu2 => bindD hc.mono (by omega) S2 h2 fun z e3 w H3 F3 h3 S3 x3 hw => ?_⟩
  rw [Nat.add_assoc] at S3
  obtain ⟨x, e, h3⟩ := optP_some h3
  obtain ⟨r, er, q⟩ := optP_some h3
  obtain ⟨c, ec, hc⟩ := bind_view e
  obtain ⟨v', e1, vw⟩ := S3.view ec hc
  rw [ea] at e1
  cases e1
  obtain ⟨a', o, e', g1, g2, _, g4⟩ := lookD_ok S3.same vw (hu2.mono x3) er
  cases e'
  exact ⟨o, g1, q _ H3 F3 S3 (x2.trans x3) (getD_hold g2 g4 hw)⟩
end
end DL
set_option maxRecDepth 100000
set_option maxHeartbeats 4000000
namespace DL
open PySem PySem.Spec PyProof.Rows L2

/-! ### isinstance -/
/-- a built-in class as a value -/
theorem pdBltn {X : Cx} {Z : ZX} {x : Str} {T : String} {pos : Pos} (hg : Gl X x) (hm : X.mg x = none) (hv : bootBuiltins x = some (.type T)) (hn : x ≠ "__name__" := by decide) (hd : (x == ("__debug__" : Str)) = false := by decide) : PEd X Z (.Name x pos) 0 (dC (.ty T)) :=
  ⟨fun _ _ _ q h => q _ _ h, PE_imp (pe_bltn hg hm hv (v := .ty T) rfl hn hd) fun σ H Q ⟨B, F, n, env, hn, S, h⟩ => h _ H F S (Ext.refl _) (.ty T)⟩
/-- an own class as a value -/
theorem pdCls {X : Cx} {Z : ZX} {x : Str} {C : Addr} {pos : Pos} (hg : Gl X x) (hm : X.mg x = some (.ref C)) (hd : (x == ("__debug__" : Str)) = false := by decide) : PEd X Z (.Name x pos) 0 (dC (.ref C)) :=
  pdGlob (v := .ref C) hg hm (show Value.ref C = Value.ref C from rfl) (fun F => .ref C) hd
def tyNm : DV → Option String
  | .non => some "NoneType"
  | .bl _ => some "bool"
  | .int _ => some "int"
  | .str _ => some "str"
  | .tup _ => some "tuple"
  | .ktup _ => some "tuple"
  | .lst _ => some "list"
  | .dk _ => some "dict"
  | _ => none
theorem tyX_of {K : PySem.W.Frag} {F H : Hp} {v : V} {d : DV} {T : String} (s : Same F H) (h : Hold K F v d) (e : tyNm d = some T) : TyX K H v (.type T) := by
  cases h with
  | non => cases e; exact .base .non
  | bl b => cases e; exact .base (.bl b)
  | int i => cases e; exact .base (.int i)
  | str x => cases e; exact .base (.str x)
  | tup ha _ => cases e; exact .base (.tup (s _ _ ha))
  | ktup h1 h2 _ _ _ _ => cases e; exact .kTuple h1 h2
  | lst ha _ => cases e; exact .base (.lst (s _ _ ha))
  | dk ha _ _ =>
    cases e
    rcases (Ext.of s).rd ha with q | ⟨o, q⟩
    · exact .base (.dK q)
    · exact .fDict q
  | _ => cases e
def anyTy (a : String) : List DV → Option Bool
  | [] => some false
  | .ty n :: r => (kitB a n).bind fun b => (anyTy a r).map fun c => b || c
  | _ :: _ => none
abbrev Rel := DV → Addr → Option Bool
def RelOk (K : PySem.W.Frag) (rel : Rel) : Prop := ∀ x C b, rel x C = some b → ∀ v F H, Same F H → Hold K F v x → ∃ t, TyX K H v t ∧ PySem.W.kitOne K t (.ref C) = some b
def isiD (rel : Rel) (x : DV) : DV → Option Bool
  | .ty n => (tyNm x).bind fun a => kitB a n
  | .tup cs => (tyNm x).bind fun a => anyTy a cs
  | .ref C => rel x C
  | _ => none
def gIsi (rel : Rel) : DV → DV → (DV → Prop) → Prop := fun x y Q => optP (isiD rel x y) fun b => Q (.bl b)
def rIsiAll (K : PySem.W.Frag) : List V → Hp → VK → Prop := fun xs H Q => rIsi K xs H Q ∨ rIsiT K xs H Q
theorem any_ty {K : PySem.W.Frag} {F : Hp} {a : String} : ∀ {vs : List V} {cs : List DV} {b : Bool}, HoldAll K F vs cs → anyTy a cs = some b → ∃ us, Paired ClsV vs us ∧ PySem.W.kitAny K (.type a) us = some b
  | _, _, b, .nil, e => by cases e; exact ⟨[], .nil, rfl⟩
  | _, _, b, .cons (d := d) (ds := ds) h t, e => by
    cases h <;> try cases e
    rename_i n
    obtain ⟨b1, e1, e⟩ := Option.bind_eq_some_iff.mp (show (kitB a n).bind (fun b => (anyTy a ds).map fun c => b || c) = some b from e)
    obtain ⟨b2, e2, e⟩ := Option.map_eq_some_iff.mp e
    obtain ⟨us, h1, h2⟩ := any_ty t e2
    subst e
    refine ⟨.type n :: us, .cons (.ty n) h1, kitAny_cons (kit_ty e1) (fun z => ?_) fun z => ?_⟩
    · subst z; exact h2
    · subst z; rfl
theorem op2Isi {K : PySem.W.Frag} {rel : Rel} (hr : RelOk K rel) : Op2d K (fun v u H Q => rIsiAll K [v, u] H Q) (gIsi rel) := by
  refine ⟨fun x y Q Q' q g => optP_mono (fun b => q _) g, fun B Z F H n σ env v u x y Q S hv hu g => ?_⟩
  obtain ⟨b, eb, g⟩ := optP_some g
  have fin := g (.bl b) H F S (Ext.refl _) (.bl b)
  cases y with
  | ty m =>
    cases hu
    obtain ⟨a, e1, e2⟩ := Option.bind_eq_some_iff.mp (show (tyNm x).bind (fun a => kitB a m) = some b from eb)
    exact .inl ⟨v, _, _, _, b, rfl, .ty m, tyX_of S.same hv e1, kit_ty e2, fin⟩
  | ref C =>
    cases hu
    obtain ⟨t, h1, h2⟩ := hr x C b eb v F H S.same hv
    exact .inl ⟨v, _, t, _, b, rfl, .own C, h1, h2, fin⟩
  | tup cs =>
    obtain ⟨a, e1, e2⟩ := Option.bind_eq_some_iff.mp (show (tyNm x).bind (fun a => anyTy a cs) = some b from eb)
    cases hu with
    | tup ha hx =>
      obtain ⟨us, h1, h2⟩ := any_ty hx e2
      exact .inr ⟨v, _, _, _, us, b, rfl, S.same _ _ ha, h1, tyX_of S.same hv e1, h2, fin⟩
  | _ => cases eb
section
variable {X : Cx} {Z : ZX} {a b : Expr} {ca cb : Nat} {fa fb : DD} {p pos : Pos}
theorem pdIsi {rel : Rel} (hr : RelOk X.K rel) (hg : Gl X "isinstance") (hm : X.mg "isinstance" = none) (ha : PEd X Z a ca fa) (hb : PEd X Z b cb fb) (hs : starEach [a, b] X.env = (false, eval a X.env) :: starEach [b] X.env := by rfl) (hs2 : starEach [b] X.env = (false, eval b X.env) :: starEach [] X.env := by rfl)
    (hpl : (backTo pos (starEach [b] X.env)).any (·.1) = false := by rfl) : PEd X Z (.Call (.Name "isinstance" p) [a, b] [] pos) (ca + cb) (dOp2d (gIsi rel) fa fb) := by
  refine PEd.op2 (op2Isi hr) ha hb (PE_imp (pe_callB (callR_or call_isi call_isiT) hg hm PyProof.Rows.boot_isinstance (pa_cons ha.run (pa_cons hb.run pa_nil hs2) hs) (by decide) (by decide) hs hpl) fun σ H Q h => h)
end

/-! ### fields -/
theorem lookup_hold {K : PySem.W.Frag} {F : Hp} : ∀ {us : List (Str × V)} {fs : List (Str × DV)}, us.map (·.1) = fs.map (·.1) → HoldAll K F (us.map (·.2)) (fs.map (·.2)) → ∀ f, (∀ d, fs.lookup f = some d → ∃ v, us.lookup f = some v ∧ Hold K F v d) ∧ (fs.lookup f = none → us.lookup f = none)
  | [], [], _, _, f => ⟨fun d e => by simp at e, fun _ => rfl⟩
  | [], _ :: _, e, _, _ => by simp at e
  | _ :: _, [], e, _, _ => by simp at e
  | (k, v) :: us, (k', d) :: fs, e, h, f => by
    simp only [List.map_cons, List.cons.injEq] at e
    obtain ⟨e1, e2⟩ := e
    have e1 : k = k' := e1
    subst e1
    cases h with
    | cons h1 h2 =>
      obtain ⟨i1, i2⟩ := lookup_hold e2 h2 f
      by_cases hk : f == k
      · simp only [List.lookup_cons, hk]
        exact ⟨fun d e => by cases e; exact ⟨v, rfl, h1⟩, fun z => by cases z⟩
      · have hk : (f == k) = false := by simpa using hk
        simp only [List.lookup_cons, hk]
        exact ⟨i1, i2⟩
def putFD (f : Str) (d : DV) : List (Str × DV) → List (Str × DV)
  | [] => [(f, d)]
  | (g, x) :: r => if g = f then (g, d) :: r else (g, x) :: putFD f d r
theorem putF_hold {K : PySem.W.Frag} {F : Hp} {f : Str} {v : V} {d : DV} (hd : Hold K F v d) : ∀ {us : List (Str × V)} {fs : List (Str × DV)}, us.map (·.1) = fs.map (·.1) → HoldAll K F (us.map (·.2)) (fs.map (·.2)) → (putF f v us).map (·.1) = (putFD f d fs).map (·.1) ∧ HoldAll K F ((putF f v us).map (·.2)) ((putFD f d fs).map (·.2))
  | [], [], _, _ => ⟨rfl, .cons hd .nil⟩
  | [], _ :: _, e, _ => by simp at e
  | _ :: _, [], e, _ => by simp at e
  | (k, x) :: us, (k', y) :: fs, e, h => by
    simp only [List.map_cons, List.cons.injEq] at e
    obtain ⟨e1, e2⟩ := e
    have e1 : k = k' := e1
    subst e1
    cases h with
    | cons h1 h2 =>
      obtain ⟨i1, i2⟩ := putF_hold hd e2 h2
      unfold putF putFD
      by_cases hk : k = f
      · rw [if_pos hk, if_pos hk]
        exact ⟨by simp [e2], .cons hd h2⟩
      · rw [if_neg hk, if_neg hk]
        exact ⟨by simp [i1], .cons h1 i2⟩
def dFld (C : Addr) (f : Str) (fa : DD) : DD := fun env Q => fa env fun x e => match x with
  | .ins C' fs => C' = C ∧ optP (fs.lookup f) fun d => Q d e
  | _ => False
def wFld (j : Nat) (C0 : Addr) (f : Str) (fe : DD) : WS := fun D env => fe env fun d e => ∃ b fs, e[j]? = some (.o b (.ins C0 fs)) ∧ fs.length ≤ 900 ∧ D.nx (e.set j (.o b (.ins C0 (putFD f d fs))))
section
variable {X : Cx} {Z : ZX} {a e : Expr} {ca c : Nat} {fa fe : DD} {p pos pos' : Pos} {f : Str}
theorem pdFld {C : Addr} (hC : Cls X.K C) (hn : NoAttr X.K C f) (ha : PVd X Z a ca fa) (hb : attributeBase a f X.env (eval a X.env) = eval a X.env := by rfl) : PEd X Z (.Attribute a f pos) ca (dFld C f fa) := by
  refine ⟨fun env Q Q' q h => ha.mono _ _ _ (fun x e h => ?_) h, PE_imp (pe_fld ha.run hb) fun σ H Q ⟨B, F, n, env, hn', S, h⟩ => bindV ha.mono hn' S h fun x e v H1 F1 h1 S1 x1 hv => ?_⟩
  · cases x <;> first | exact ⟨h.1, optP_mono (fun d => q _ _) h.2⟩ | exact h
  · cases x with
    | ins C' fs =>
      obtain ⟨rfl, h1⟩ := h1
      obtain ⟨d, ed, q⟩ := optP_some h1
      obtain ⟨a, dx, us, rfl, e1, e2, e3⟩ := hv.ins S1.same
      obtain ⟨w, e4, hw⟩ := (lookup_hold e2 e3 f).1 d ed
      exact ⟨a, C', dx, us, w, rfl, e1, hC, hn, e4, q w H1 F1 S1 x1 hw⟩
    | _ => exact h1.elim
/-- self.f = e, the instance owned -/
theorem psFld (j : Nat) {x : Str} {C0 : Addr} (hC0 : Cls X.K C0) (hn0 : NoAttr X.K C0 f) (he : PEd X Z e c fe) (hN : X.N[j]? = some x := by rfl) (hv : Vis X.env.scope x := by first | exact Or.inl rfl | exact Or.inr (Or.inl rfl) | exact Or.inr (Or.inr rfl)) (hd : (x == ("__debug__" : Str)) = false := by decide)
    (hcd : (x == ("__classdict__" : Str)) = false := by decide) (hs : swapsWith e (some (.Attribute (.Name x p) f pos')) pos.line X.env = pure false := by rfl) : PSd X Z (.Assign [.Attribute (.Name x p) f pos'] e pos) c (wFld j C0 f fe) := by
  refine ⟨fun D D' env l h => he.mono _ _ _ (fun d e ⟨b, fs, h1, h2, h3⟩ => ⟨b, fs, h1, h2, l.nx _ h3⟩) h, PS_imp (ps_fld (pe_var hN hv hd hcd) he.run hs) fun D σ H ⟨B, F, n, env, hn', S, h⟩ => bindD he.mono hn' S h fun d e1 v H1 F1 g S1 x1 hvd => ?_⟩
  obtain ⟨b, fs, e2, hl, q⟩ := g
  obtain ⟨a, ea, hF, ⟨dx, us, h1, h2, h3⟩, _⟩ := S1.own e2
  refine ⟨_, ea, a, C0, dx, us, rfl, h1, hC0, hn0, ?_, ?_⟩
  · have := congrArg List.length h2
    simp only [List.length_map] at this
    omega
  · obtain ⟨i1, i2⟩ := putF_hold (f := f) hvd h2 h3
    exact q σ _ F1 (S1.write e2 ea ⟨dx, _, upd_same, i1, i2⟩) x1
end
end DL
set_option maxRecDepth 100000
set_option maxHeartbeats 4000000
namespace DL
open PySem PySem.Spec PyProof.Rows L2

/-! ### one slot more -/
section
variable {B : Base} {K : PySem.W.Frag} {Z : ZX} {F H : Hp} {n : Nat} {σ : L2.St} {env : List Cell}
theorem snoc_cases {α : Type} {l : List α} {i : Nat} {x y : α} (e : (l ++ [x])[i]? = some y) : (l[i]? = some y ∧ i < l.length) ∨ (i = l.length ∧ y = x) := by
  by_cases h : i < l.length
  · rw [List.getElem?_append_left h] at e
    exact .inl ⟨e, h⟩
  · rw [List.getElem?_append_right (by omega)] at e
    have : i - l.length = 0 := by
      have := (List.getElem?_eq_some_iff.mp e).1
      simp at this
      omega
    rw [this] at e
    exact .inr ⟨by omega, by simpa using e.symm⟩
theorem SOk.push (S : SOk B K Z F H n σ env) {v : V} {c : Cell} (r : Res B K F H n σ env v c) : SOk B K Z F H n (σ ++ [some v]) (env ++ [c]) := by
  have hl := S.len
  have at1 : ∀ {i : Nat}, i < env.length → (σ ++ [some v])[i]? = σ[i]? := fun {i} h => List.getElem?_append_left (by omega)
  have at2 : (σ ++ [some v])[env.length]? = some (some v) := by rw [List.getElem?_append_right (by omega)]; simp [hl]
  refine ⟨⟨S.same, by simp [hl], fun i ci e => ?_, fun i j b b' ci cj a a' x ei ej si sj xi xj => ?_, S.fr, S.ff, S.bd, S.lb, S.lk, fun p hp => ?_, S.dom, S.tb⟩, S.lnk⟩
  · rcases snoc_cases e with ⟨e, h⟩ | ⟨rfl, rfl⟩
    · obtain ⟨o, e1, h1⟩ := S.at_ i ci e
      exact ⟨o, by rw [at1 h]; exact e1, h1⟩
    · exact ⟨some v, at2, r.1⟩
  · rcases snoc_cases ei with ⟨ei', h1⟩ | ⟨zi, yi⟩
    · rw [at1 h1] at si
      rcases snoc_cases ej with ⟨ej', h2⟩ | ⟨zj, yj⟩
      · rw [at1 h2] at sj
        exact S.sep i j b b' ci cj a a' x ei' ej' si sj xi xj
      · rw [zj, at2] at sj
        cases sj
        exact absurd xi ((r.2.2 _ _ _ yj.symm rfl x xj).1 i b ci a ei' si)
    · rw [zi, at2] at si
      cases si
      rcases snoc_cases ej with ⟨ej', h2⟩ | ⟨zj, yj⟩
      · rw [at1 h2] at sj
        exact absurd xj ((r.2.2 _ _ _ yi.symm rfl x xi).1 j b' cj a' ej' sj)
      · rw [zi, zj]
  · obtain ⟨⟨oc, e1⟩, e2⟩ := S.bs p hp
    have h := (List.getElem?_eq_some_iff.mp e1).1
    exact ⟨⟨oc, by rw [List.getElem?_append_left h]; exact e1⟩, by rw [at1 h]; exact e2⟩
theorem SOk.pop {o : Option V} {c : Cell} (S : SOk B K Z F H n (σ ++ [o]) (env ++ [c])) (hb : c.bor = false) : SOk B K Z F H n σ env := by
  have hl : σ.length = env.length := by have := S.len; simpa using this
  have up : ∀ {i : Nat} {ci : Cell}, env[i]? = some ci → (env ++ [c])[i]? = some ci ∧ (σ ++ [o])[i]? = σ[i]? := fun {i ci} e => by
    have h := (List.getElem?_eq_some_iff.mp e).1
    exact ⟨by rw [List.getElem?_append_left h]; exact e, List.getElem?_append_left (by omega)⟩
  refine ⟨⟨S.same, hl, fun i ci e => ?_, fun i j b b' ci cj a a' x ei ej si sj xi xj => ?_, S.fr, S.ff, S.bd, S.lb, S.lk, fun p hp => ?_, S.dom, S.tb⟩, S.lnk⟩
  · obtain ⟨h1, h2⟩ := up e
    obtain ⟨o', e1, h⟩ := S.at_ i ci h1
    exact ⟨o', by rw [← h2]; exact e1, h⟩
  · obtain ⟨h1, h2⟩ := up ei
    obtain ⟨h3, h4⟩ := up ej
    exact S.sep i j b b' ci cj a a' x h1 h3 (by rw [h2]; exact si) (by rw [h4]; exact sj) xi xj
  · obtain ⟨⟨oc, e1⟩, e2⟩ := S.bs p hp
    rcases snoc_cases e1 with ⟨e1, h⟩ | ⟨_, e1⟩
    · exact ⟨⟨oc, e1⟩, by rw [← (up e1).2]; exact e2⟩
    · rw [← e1] at hb
      cases hb
end

/-! ### C(..) -/
theorem borF_d (H : Hp) : ∀ (vs : List V) (xs : List DV), borF H vs (xs.map Cell.d) = [] := by
  intro vs
  induction vs with
  | nil => intro xs; cases xs <;> rfl
  | cons v vs ih =>
    intro xs
    cases xs with
    | nil => cases v <;> rfl
    | cons x xs => cases v <;> exact ih xs
def argsD (xs : List DV) : List Arg := xs.map Arg.d
theorem argsD_ok {K : PySem.W.Frag} {F : Hp} {σ : L2.St} : ∀ {vs : List V} {xs : List DV}, HoldAll K F vs xs → ArgsOk K F σ vs (argsD xs)
  | _, _, .nil => .nil
  | _, _, .cons h t => .cons h (argsD_ok t)
theorem borIx_argsD (xs : List DV) : borIx (argsD xs) = [] := by
  induction xs with
  | nil => rfl
  | cons x xs ih => exact ih
theorem cells_argsD (env : List Cell) (xs : List DV) : (argsD xs).map (cellOf env) = xs.map Cell.d := by
  simp [argsD, cellOf]
def dMake (C : Addr) (con : Con) (G : Addr → List (Str × DV) → List Cell → Prop) (dds : List DV) (g : DA) : DE := fun env Q => g env fun xs e => con (.o true (.ins C []) :: (xs ++ dds).map Cell.d)
  (fun r os => match os with
    | [oc] => Q (.o false oc) e
    | _ => False) fun C' fs _ => G C' fs e
section
variable {X : Cx} {Z : ZX} {k : Nat} {C f : Addr} {fd : FuncData} {ps : List Str} {con : Con} {cf ca : Nat} {x : Str} {p pos : Pos} {e : Expr} {es : List Expr} {g : DA} {ds : List Value} {dvs : List V} {dds : List DV}
theorem pcMake (mc : ConMono con) (M : Mk X.K C f) (G : FnOk X.prog X.w X.K X.mg X.base (L2.CX X.prog X.w) k f fd ps (SpD X.K Z.T cf con)) (hret : ∀ cs P Y, con cs P Y → con cs (fun r os => r = .d .non ∧ P r os) Y) (hr : Room (k + 1) X.A) (hx : Passes (L2.CX X.prog X.w) X Z.E) (hg : Gl X x) (hm : X.mg x = some (.ref C)) (hb : Binds X.K fd ps ds) (hd : Vals dvs ds) (hdd : ∀ F, HoldAll X.K F dvs dds)
    (ha : PAd X Z (e :: es) ca g) (hdb : (x == ("__debug__" : Str)) = false := by decide) (he : starEach (e :: es) X.env = (false, eval e X.env) :: starEach es X.env := by rfl) (hpl : (backTo pos (starEach es X.env)).any (·.1) = false := by rfl) :
    PEc X Z (.Call (.Name x p) (e :: es) [] pos) (ca + cf) (dMake C con Z.G dds g) := by
  refine ⟨fun env Q Q' q h => ha.mono _ _ _ (fun xs e h => mc _ _ _ _ _ (fun r os h => ?_) (fun _ _ _ z => z) h) h, PE_imp (pe_make M G hr hg hm hb hd hx ha.run hdb he hpl) fun σ H Q ⟨B, F, n, env, hn, S, h⟩ => ?_⟩
  · match os, h with
    | [oc], h => exact q _ _ h
  · refine bindA ha.mono (by omega) S h fun xs e1 vs H1 F1 h1 S1 x1 hv y dx hy hdx ne => ?_
    have S2 := S1.allocO (o := .own y) hdx
    have hy2 : upd H1 dx (.own y) y = none := by rw [upd_ne (Ne.symm ne)]; exact hy
    obtain ⟨S3, r3⟩ := new_own S2 (oc := .ins C []) (o := .ins C dx []) hy2 ⟨dx, [], upd_same, rfl, .nil⟩
    have S4 := S3.push r3
    have hl : σ.length = e1.length := S3.len
    have ecell : (e1 ++ [Cell.o false (.ins C [])])[e1.length]? = some (.o false (.ins C [])) := by rw [List.getElem?_append_right (Nat.le_refl _)]; simp
    have hargs : ArgsOk X.K F1 (σ ++ [some (V.ref y)]) (V.ref y :: (vs ++ dvs)) (.b e1.length :: argsD (xs ++ dds)) := by
      refine .cons ?_ (argsD_ok (hv.append (hdd F1)))
      show (σ ++ [some (V.ref y)])[e1.length]? = some (some (V.ref y))
      rw [List.getElem?_append_right (by omega)]
      simp [hl]
    have hix : borIx (Arg.b e1.length :: argsD (xs ++ dds)) = [e1.length] := by rw [borIx, borIx_argsD]
    have hnd : (borIx (Arg.b e1.length :: argsD (xs ++ dds))).Nodup := by rw [hix]; simp
    have hal : allOwn (e1 ++ [Cell.o false (.ins C [])]) (borIx (Arg.b e1.length :: argsD (xs ++ dds))) := by
      rw [hix]
      exact ⟨by rw [ecell]; trivial, trivial⟩
    have hcells : (Arg.b e1.length :: argsD (xs ++ dds)).map (cellOf (e1 ++ [Cell.o false (.ins C [])])) = .o true (.ins C []) :: (xs ++ dds).map Cell.d := by
      rw [List.map_cons, cells_argsD]
      simp only [cellOf, ecell]
    have hbor : borA (V.ref y :: (vs ++ dvs)) (.o true (.ins C []) :: (xs ++ dds).map Cell.d) = y :: borA (vs ++ dvs) ((xs ++ dds).map Cell.d) := rfl
    refine ⟨F1, n + ca, .o true (.ins C []) :: (xs ++ dds).map Cell.d, Z.M, ⟨by omega, Z.ml⟩, S3.same, S3.tb, ?_, ?_, mc _ _ _ _ _ (fun r os h v H2 F2 pd => ?_) (fun C' fs os gx d m H2 F2 h1 h2 px => ?_) (hret _ _ _ h1)⟩
    · have := (args_par S4.toCore hargs hal).1
      rw [hcells] at this
      exact this
    · have := ArgsOk.nodup S4.toCore hargs hnd hal
      rw [hcells] at this
      exact this
    · obtain ⟨hr0, h⟩ := h
      match os, h with
      | [oc], h =>
        have pd' : PostD X.K Z.T F1 (upd (upd H1 dx (.own y)) y (.ins C dx [])) (borA (V.ref y :: (vs ++ dvs)) ((Arg.b e1.length :: argsD (xs ++ dds)).map (cellOf (e1 ++ [Cell.o false (.ins C [])])))) (borF (upd (upd H1 dx (.own y)) y (.ins C dx [])) (V.ref y :: (vs ++ dvs)) ((Arg.b e1.length :: argsD (xs ++ dds)).map (cellOf (e1 ++ [Cell.o false (.ins C [])])))) (n + ca + cf) r [oc] v H2 F2 := by rw [hcells]; exact pd
        obtain ⟨S5, _⟩ := S4.call hargs hnd hal (Nat.le_add_right _ _) pd'
        have eput : putB (e1 ++ [Cell.o false (.ins C [])]) (borIx (Arg.b e1.length :: argsD (xs ++ dds))) [oc] = e1 ++ [Cell.o false oc] := by
          rw [hix, putB, ecell]
          simp [putB]
        rw [eput] at S5
        rw [Nat.add_assoc] at S5
        have S6 := S5.pop (by rfl)
        have hrv : v = .non := by
          have := pd.res
          subst hr0
          cases this
          rfl
        refine ⟨hrv, h _ H2 F2 S6 (x1.trans pd.ext) ?_⟩
        have ec5 : (e1 ++ [Cell.o false oc])[e1.length]? = some (.o false oc) := by rw [List.getElem?_append_right (Nat.le_refl _)]; simp
        obtain ⟨a, ea, q1, q2, q3, q4⟩ := S5.toCore.ownF ec5
        have ey : a = y := by
          rw [List.getElem?_append_right (by omega)] at ea
          simp [hl] at ea
          exact ea.symm
        subst ey
        refine Res.mk q1 q2 fun x hx => ⟨fun i b' ci a' ei si hy => ?_, ?_⟩
        · have hi := (List.getElem?_eq_some_iff.mp ei).1
          have := S5.sep i e1.length b' false ci oc a' a x (by rw [List.getElem?_append_left hi]; exact ei) ec5 (by rw [List.getElem?_append_left (by omega)]; exact si) (by rw [List.getElem?_append_right (by omega)]; simp [hl]) hy hx
          omega
        · cases pd.bor with
          | cons z _ =>
            rcases (z.1 x hx).2 with w | w
            · rw [show borF (upd (upd H1 dx (.own a)) a (.ins C dx [])) (V.ref a :: (vs ++ dvs)) (.o true (.ins C []) :: (xs ++ dds).map Cell.d) = [a] ++ borF (upd (upd H1 dx (.own a)) a (.ins C dx [])) (vs ++ dvs) ((xs ++ dds).map Cell.d) from rfl, borF_d, List.append_nil] at w
              cases List.mem_singleton.mp w
              exact .inl (S1.fresh0 hy)
            · refine .inl (S1.fresh0 ?_)
              have n1 : x ≠ a := by
                rintro rfl
                rw [upd_same] at w
                cases w
              rw [upd_ne n1] at w
              have n2 : x ≠ dx := by
                rintro rfl
                rw [upd_same] at w
                cases w
              rw [upd_ne n2] at w
              exact w
    · have px' : Frm X.K Z.T F1 (upd (upd H1 dx (.own y)) y (.ins C dx [])) (borA (V.ref y :: (vs ++ dvs)) ((Arg.b e1.length :: argsD (xs ++ dds)).map (cellOf (e1 ++ [Cell.o false (.ins C [])])))) (borF (upd (upd H1 dx (.own y)) y (.ins C dx [])) (V.ref y :: (vs ++ dvs)) ((Arg.b e1.length :: argsD (xs ++ dds)).map (cellOf (e1 ++ [Cell.o false (.ins C [])])))) m os H2 F2 := by rw [hcells]; exact px.toFrm
      obtain ⟨S5, _⟩ := S4.toCore.call hargs hnd hal h1 px'
      have hos : ∃ oc, os = [oc] := by
        have := px.bor
        rw [hbor] at this
        have hn : borA (vs ++ dvs) ((xs ++ dds).map Cell.d) = [] := by
          have gen : ∀ (vs : List V) (xs : List DV), borA vs (xs.map Cell.d) = [] := by
            intro vs
            induction vs with
            | nil => intro xs; cases xs <;> rfl
            | cons v vs ih =>
              intro xs
              cases xs with
              | nil => cases v <;> rfl
              | cons x xs => cases v <;> exact ih xs
          exact gen _ _
        rw [hn] at this
        cases this with
        | cons a t => cases t; exact ⟨_, rfl⟩
      obtain ⟨oc, rfl⟩ := hos
      have eput : putB (e1 ++ [Cell.o false (.ins C [])]) (borIx (Arg.b e1.length :: argsD (xs ++ dds))) [oc] = e1 ++ [Cell.o false oc] := by
        rw [hix, putB, ecell]
        simp [putB]
      rw [eput] at S5
      have S6 := SOk.pop (⟨S5, S4.lnk.mono px.ext h1⟩ : SOk B X.K Z F2 H2 m (σ ++ [some (V.ref y)]) (e1 ++ [Cell.o false oc])) (by rfl)
      refine S1.lnk.2 F2 H2 m σ e1 C' d fs S6.toCore px.ext h1 h2 px.exc ?_ gx
      have hn := px.new
      have n1 : d ≠ y := by
        rintro rfl
        rw [upd_same] at hn
        cases hn
      rw [upd_ne n1] at hn
      have n2 : d ≠ dx := by
        rintro rfl
        rw [upd_same] at hn
        cases hn
      rw [upd_ne n2] at hn
      exact S1.fresh0 hn
end

/-! ### o.m(..), the receiver by data -/
def dMeth (C : Addr) (m : Str) (con : Con) (G : Addr → List (Str × DV) → List Cell → Prop) (dds : List DV) (fa : DD) (g : DA) : DE := fun env Q => fa env fun x e1 => (match x with
  | .ins C' fs => C' = C ∧ fs.lookup m = none
  | _ => False) ∧ g e1 fun xs e2 => con ((x :: (xs ++ dds)).map Cell.d) (fun r _ => Q r e2) fun C' fs _ => G C' fs e2
section
variable {X : Cx} {Z : ZX} {k : Nat} {C f : Addr} {m : Str} {fd : FuncData} {ps : List Str} {con : Con} {cf ca co : Nat} {p pos apos : Pos} {o e : Expr} {es : List Expr} {fo : DD} {g : DA} {ds : List Value} {dvs : List V} {dds : List DV}
theorem pcMeth {pl : Sem Bool} (mc : ConMono con) (c : Cls X.K C) (hm : Meth X.K C m f) (G : FnOk X.prog X.w X.K X.mg X.base (L2.CX X.prog X.w) k f fd ps (SpD X.K Z.T cf con)) (hr : Room k X.A) (hx : Passes (L2.CX X.prog X.w) X Z.E) (hb : Binds X.K fd ps ds) (hd : Vals dvs ds) (hdd : ∀ F, HoldAll X.K F dvs dds) (ho : PEd X Z o co fo) (ha : PAd X Z (e :: es) ca g)
    (hst : starEach (e :: es) X.env = (false, eval e X.env) :: starEach es X.env := by rfl) (hpl : (backTo pos (starEach es X.env)).any (·.1) = false := by rfl)
    (ht : eval (.Call (.Attribute o m apos) (e :: es) [] pos) X.env = (do
      let ov ← eval o X.env
      standAt apos.atName
      let (f, first) ← holding [ov] (getMethod ov m pl)
      callWith pos f first (backTo pos (starEach (e :: es) X.env)) (backToKw pos (keywordEach [] X.env))) := by rfl) :
    PEc X Z (.Call (.Attribute o m apos) (e :: es) [] pos) (co + ca + cf) (dMeth C m con Z.G dds fo g) := by
  refine ⟨fun env Q Q' q h => ho.mono _ _ _ (fun x e h => ⟨h.1, ha.mono _ _ _ (fun xs e2 h => mc _ _ _ _ _ (fun r os => q _ _) (fun _ _ _ z => z) h) h.2⟩) h, PE_imp (pe_meth ho.run c hm G hr hb hd hx ha.run hst hpl ht) fun σ H Q ⟨B, F, n, env, hn, S, h⟩ => ?_⟩
  refine bindD ho.mono (by omega) S h fun x e1 v H1 F1 h1 S1 x1 hv => ?_
  obtain ⟨h0, h1⟩ := h1
  cases x with
  | ins C' fs =>
    obtain ⟨rfl, h0⟩ := h0
    cases hv with
    | ins ea en eh =>
      refine ⟨_, _, _, rfl, S1.same _ _ ea, (lookup_hold en eh m).2 h0, bindA ha.mono (by omega) S1 h1 fun xs e2 vs H2 F2 h2 S2 x2 hvs => ?_⟩
      rename_i a dx us
      have hx1 : Hold X.K F1 (.ref a) (.ins C' fs) := .ins ea en eh
      have hargs : ArgsOk X.K F2 σ (V.ref a :: (vs ++ dvs)) (argsD (.ins C' fs :: (xs ++ dds))) := argsD_ok (.cons (hx1.mono x2) (hvs.append (hdd F2)))
      have hnd : (borIx (argsD (DV.ins C' fs :: (xs ++ dds)))).Nodup := by rw [borIx_argsD]; exact List.nodup_nil
      have hal : allOwn e2 (borIx (argsD (DV.ins C' fs :: (xs ++ dds)))) := by rw [borIx_argsD]; trivial
      have hcells := cells_argsD e2 (DV.ins C' fs :: (xs ++ dds))
      have p1 := (args_par S2.toCore hargs hal).1
      have p2 := ArgsOk.nodup S2.toCore hargs hnd hal
      rw [hcells] at p1 p2
      refine ⟨F2, n + co + ca, _, Z.M, ⟨by omega, Z.ml⟩, S2.same, S2.tb, p1, p2, mc _ _ _ _ _ (fun r os h v H3 F3 pd => ?_) (fun C2 fs2 os gx d m2 H3 F3 g1 g2 px => ?_) h2⟩
      · rw [← hcells] at pd
        obtain ⟨S3, r3⟩ := S2.call hargs hnd hal (Nat.le_add_right _ _) pd
        rw [borIx_argsD] at S3 r3
        rw [show n + co + ca + cf = n + (co + ca + cf) by omega] at S3 r3
        have e0 : putB e2 [] os = e2 := by cases os <;> rfl
        rw [e0] at S3 r3
        exact h v H3 F3 S3 ((x1.trans x2).trans pd.ext) r3
      · have pf := px.toFrm
        rw [← hcells] at pf
        obtain ⟨S3, _⟩ := S2.toCore.call hargs hnd hal g1 pf
        rw [borIx_argsD] at S3
        have e0 : putB e2 [] os = e2 := by cases os <;> rfl
        rw [e0] at S3
        exact S2.lnk.2 F3 H3 m2 σ e2 C2 d fs2 S3 px.ext g1 g2 px.exc (S2.fresh0 px.new) gx
  | _ => exact h0.elim
end
end DL
set_option maxRecDepth 100000
set_option maxHeartbeats 4000000
namespace DL
open PySem PySem.Spec PyProof.Rows L2

/-! ### errors of the package -/
/-- D.__init__(self, ..) where D is an own class that has the built-in ValueError's -/
structure BaseI (K : PySem.W.Frag) (D : Addr) : Prop where
  rd : PySem.W.readsIn K D (.type "type") = true
  ga : PySem.W.specialIn K (.ref D) "__getattribute__" = some (some (.builtin "type.__getattribute__"))
  at_ : PySem.W.findCls K (.ref D) (.type "type") "__init__" = some (.val (.builtin "ValueError.__init__"))
/-- the call cl is recv.nm(as) -/
def ByMeth (cl recv : Expr) (rp : Pos) (nm : Str) (as : List Expr) (cp : Pos) (env : Env) : Prop :=
  ∃ pl, eval cl env = eval recv env >>= fun o => standAt rp.atName >>= fun _ => holding [o] (getMethod o nm pl) >>= fun m => callWith cp m.1 m.2 (backTo cp (starEach as env)) (backToKw cp (keywordEach [] env))
theorem pe_ceinit {X : Cx} {D : Addr} {x : Str} {e : Expr} {es : List Expr} {ta : TA} {p1 p2 pos : Pos} (hg : Gl X x) (hm : X.mg x = some (.ref D)) (hB : BaseI X.K D) (ha : PA X (e :: es) ta) (hc : ByMeth (.Call (.Attribute (.Name x p1) "__init__" p2) (e :: es) [] pos) (.Name x p1) p2 "__init__" (e :: es) pos X.env)
    (hst : starEach (e :: es) X.env = (false, eval e X.env) :: starEach es X.env := by rfl) (hno : (backTo pos (starEach es X.env)).any (·.1) = false := by rfl) (hdb : (x == ("__debug__" : Str)) = false := by decide) :
    PE X (.Call (.Attribute (.Name x p1) "__init__" p2) (e :: es) [] pos) (tVeI X.K ta) where
  run := fun pins s σ H Q I h => by
    obtain ⟨pl, hc⟩ := hc
    refine PySem.W.methodCall_KW (pl := pl) (ld_glob I hg hm (PySem.W.method_cls I.kIn hB.ga (PySem.W.cls_value I.kIn hB.rd hB.at_ (by decide +kernel) ?_)) hdb) hc
    have args := ha.run pos pins { s with toks := s.toks + 1 } σ H _ (I.tok _) h
    show wpAny _ _ (callWith pos (.builtin "ValueError.__init__") [] (backTo pos (starEach (e :: es) X.env)) []) _ _ _
    refine PyProof.Rows.callWith_method1 (thn args fun us s1 z => ?_) hst hno
    obtain ⟨vs, H1, J, rel, a, C, ws, rfl, few, T, ea, q⟩ := z
    cases rel with
    | cons ra rr =>
      cases ra
      refine oinit_ok T J ea ?_ fun s' J' => ⟨.non, H1, J', rfl, q⟩
      have n := Paired.length rr
      have z := sizeLine_eq
      omega
/-- what the error's __init__ leaves -/
def errH (H : Hp) (a C d : Addr) (fs : List (Str × V)) : Hp := upd (upd H d (exd d fs)) a (exo a C (some d))
def SpErr (K : PySem.W.Frag) (C : Addr) (k : Nat) (g : List V → List (Str × V)) : Sp := fun vs H Q _ => ∃ a ws, vs = .ref a :: ws ∧ ws.length = k ∧ H a = some (exo a C none) ∧ ∀ d, H d = none → d ≠ a → Q .non (errH H a C d (g ws))
/-- what is known of the error's class -/
structure ErrC (K : PySem.W.Frag) (C : Addr) (fI : Addr) (ns : List Str) : Prop where
  oex : OexC K C
  init : PySem.W.findIn K (.ref C) "__init__" = some (some (.ref fI))
  ty : PySem.W.typeIn K (.ref fI) = some (.type "function")
  no : ∀ f ∈ ns, PySem.W.findIn K (.ref C) f = some none
theorem errH_step {H : Hp} {a C d : Addr} {fs : List (Str × V)} {f : Str} {y : V} (ne : d ≠ a) : upd (errH H a C d fs) d (exd d ((f, y) :: fs)) = errH H a C d ((f, y) :: fs) := by
  funext b
  unfold errH
  by_cases h1 : b = d
  · subst h1
    rw [upd_same, upd_ne ne, upd_same]
  · rw [upd_ne h1]
    by_cases h2 : b = a
    · subst h2
      rw [upd_same, upd_same]
    · rw [upd_ne h2, upd_ne h2, upd_ne h1, upd_ne h1]
section
variable {P : Program} {w : World} {K : PySem.W.Frag} {mg : Str → Option Value} {base : Heap}
/-- the first statement: D.__init__(self, "..") -/
theorem init_first {X : Cx} {D : Addr} {x : Str} {m : Str} {j : Nat} {p1 p2 p3 p4 p5 pos : Pos} (hg : Gl X x) (hm : X.mg x = some (.ref D)) (hB : BaseI X.K D) (hN : X.N[0]? = some ("self" : Str)) (hv : Vis X.env.scope ("self" : Str)) (hdb : (x == ("__debug__" : Str)) = false := by decide)
    (hc : ByMeth (.Call (.Attribute (.Name x p1) "__init__" p2) [.Name "self" p3, .Constant (.str m) j p4] [] p5) (.Name x p1) p2 "__init__" [.Name "self" p3, .Constant (.str m) j p4] p5 X.env := by exact ⟨_, rfl⟩)
    (hs : swapsWith (.Call (.Attribute (.Name x p1) "__init__" p2) [.Name "self" p3, .Constant (.str m) j p4] [] p5) none pos.line X.env = pure false := by rfl) :
    PS X (.Expr (.Call (.Attribute (.Name x p1) "__init__" p2) [.Name "self" p3, .Constant (.str m) j p4] [] p5) pos)
      (fun D σ H => ∃ a C : Addr, σ[0]? = some (some (.ref a)) ∧ OexC X.K C ∧ H a = some (exo a C none) ∧ D.nx σ H) := by
  refine PS_imp (ps_expr (pe_ceinit hg hm hB (pa_cons (pe_var (i := 0) hN hv (by decide) (by decide)) (pa_cons pe_str pa_nil rfl) rfl) hc rfl rfl hdb) hs) fun D σ H ⟨a, C, h1, h2, h3, h4⟩ => ?_
  exact ⟨_, h1, a, C, _, rfl, by simp, h2, h3, h4⟩
/-- a further statement: self.f = f, the first field -/
theorem init_new {X : Cx} {f : Str} {i : Nat} {q1 q2 q3 pos : Pos} (hN0 : X.N[0]? = some ("self" : Str)) (hv0 : Vis X.env.scope ("self" : Str)) (hN : X.N[i]? = some f) (hv : Vis X.env.scope f) (hd : (f == ("__debug__" : Str)) = false := by decide) (hcd : (f == ("__classdict__" : Str)) = false := by decide)
    (hs : swapsWith (.Name f q3) (some (.Attribute (.Name "self" q1) f q2)) pos.line X.env = pure false := by rfl) :
    PS X (.Assign [.Attribute (.Name "self" q1) f q2] (.Name f q3) pos) (fun D σ H => ∃ (a C : Addr) (y : V), σ[0]? = some (some (.ref a)) ∧ σ[i]? = some (some y) ∧ OexC X.K C ∧ PySem.W.findIn X.K (.ref C) f = some none ∧ H a = some (exo a C none) ∧ ∀ d, H d = none → d ≠ a → D.nx σ (errH H a C d [(f, y)])) :=
  PS_imp (ps_ost (pe_var hN0 hv0 (by decide) (by decide)) (pe_var hN hv hd hcd) hs) fun D σ H ⟨a, C, y, h0, h1, h2, h3, h4, h5⟩ => ⟨y, h1, _, h0, a, C, rfl, h2, h3, .inl ⟨h4, h5⟩⟩
theorem init_old {X : Cx} {f : Str} {i : Nat} {q1 q2 q3 pos : Pos} (hN0 : X.N[0]? = some ("self" : Str)) (hv0 : Vis X.env.scope ("self" : Str)) (hN : X.N[i]? = some f) (hv : Vis X.env.scope f) (hd : (f == ("__debug__" : Str)) = false := by decide) (hcd : (f == ("__classdict__" : Str)) = false := by decide)
    (hs : swapsWith (.Name f q3) (some (.Attribute (.Name "self" q1) f q2)) pos.line X.env = pure false := by rfl) :
    PS X (.Assign [.Attribute (.Name "self" q1) f q2] (.Name f q3) pos) (fun D σ H => ∃ (H0 : Hp) (a C d : Addr) (fs : List (Str × V)) (y : V), H = errH H0 a C d fs ∧ d ≠ a ∧ σ[0]? = some (some (.ref a)) ∧ σ[i]? = some (some y) ∧ OexC X.K C ∧ PySem.W.findIn X.K (.ref C) f = some none ∧ fs.length ≤ 900 ∧ D.nx σ (errH H0 a C d ((f, y) :: fs))) :=
  PS_imp (ps_ost (pe_var hN0 hv0 (by decide) (by decide)) (pe_var hN hv hd hcd) hs) fun D σ H ⟨H0, a, C, d, fs, y, e, ne, h0, h1, h2, h3, h4, h5⟩ => by
    subst e
    refine ⟨y, h1, _, h0, a, C, rfl, h2, h3, .inr ⟨d, fs, upd_same, ?_, h4, ?_⟩⟩
    · unfold errH
      rw [upd_ne ne, upd_same]
    · rw [errH_step ne]
      exact h5
/-- the base class's __init__ in a body -/
structure Ini (mg : Str → Option Value) (K : PySem.W.Frag) (D : Addr) : Prop where
  mgD : mg "CountError" = some (.ref D)
  bI : BaseI K D
theorem err1 {qual m f1 : Str} {st : Stmt} {f C D : Addr} {fd : FuncData} {k j : Nat} {p1 p2 p3 p4 p5 p6 a1 a2 a3 a4 : Pos} (F : Fun K "__init__" qual st f fd) (S : FnScope ["self", f1] ["self", f1] (defScope st)) (E : ErrC K C f [f1]) (J : Ini mg K D)
    (hb : defBody st = [.Expr (.Call (.Attribute (.Name "CountError" p1) "__init__" p2) [.Name "self" p3, .Constant (.str m) j p4] [] p5) p6, .Assign [.Attribute (.Name "self" a1) f1 a2] (.Name f1 a3) a4])
    (hc : ∀ env : Env, ByMeth (.Call (.Attribute (.Name "CountError" p1) "__init__" p2) [.Name "self" p3, .Constant (.str m) j p4] [] p5) (.Name "CountError" p1) p2 "__init__" [.Name "self" p3, .Constant (.str m) j p4] p5 env)
    (hsw : ∀ env : Env, swapsWith (.Call (.Attribute (.Name "CountError" p1) "__init__" p2) [.Name "self" p3, .Constant (.str m) j p4] [] p5) none p6.line env = pure false)
    (hv : ∀ y ∈ (["self", f1] : List Str), (defScope st).names.lookup y = some .local) (hgx : (defScope st).names.lookup ("CountError" : Str) = some .globalImplicit)
    (hd1 : (f1 == ("__debug__" : Str)) = false := by decide) (hcd1 : (f1 == ("__classdict__" : Str)) = false := by decide) :
    FnOk P w K mg base (L2.CX P w) (k + 1) f fd ["self", f1] (SpErr K C 1 fun ws => ([f1].zip ws).reverse) := by
  obtain ⟨oc, od, kV, doc, pm, an, cdv, ct, osl, rfl, lk, hcd⟩ := F.ex
  refine fn_of lk hcd S (fun vs H Q E h => ?_) fun A outer s H vs Q E' hr h => ?_
  · obtain ⟨a, ws, rfl, h1, _⟩ := h
    simp [h1]
  · obtain ⟨a, ws, rfl, h1, h2, h3⟩ := h
    obtain ⟨y, rfl⟩ : ∃ y, ws = [y] := by
      match ws, h1 with
      | [y], _ => exact ⟨y, rfl⟩
    rw [hb]
    have v0 := hv ("self" : Str) (by simp)
    have v1 := hv f1 (by simp)
    refine ⟨_, pss_cons (init_first hgx J.mgD J.bI rfl (.inl v0) (by decide) (hc _) (hsw _)) (pss_one (init_new rfl (.inl v0) (i := 1) rfl (.inl v1) hd1 hcd1)), ?_⟩
    refine ⟨a, C, rfl, E.oex, h2, a, C, y, rfl, rfl, E.oex, E.no f1 (by simp), h2, fun d hd ne => ?_⟩
    exact h3 d hd ne
theorem err2 {qual m f1 f2 : Str} {st : Stmt} {f C D : Addr} {fd : FuncData} {k j : Nat} {p1 p2 p3 p4 p5 p6 a1 a2 a3 a4 b1 b2 b3 b4 : Pos} (F : Fun K "__init__" qual st f fd) (S : FnScope ["self", f1, f2] ["self", f1, f2] (defScope st)) (E : ErrC K C f [f1, f2]) (J : Ini mg K D)
    (hb : defBody st = [.Expr (.Call (.Attribute (.Name "CountError" p1) "__init__" p2) [.Name "self" p3, .Constant (.str m) j p4] [] p5) p6, .Assign [.Attribute (.Name "self" a1) f1 a2] (.Name f1 a3) a4, .Assign [.Attribute (.Name "self" b1) f2 b2] (.Name f2 b3) b4])
    (hc : ∀ env : Env, ByMeth (.Call (.Attribute (.Name "CountError" p1) "__init__" p2) [.Name "self" p3, .Constant (.str m) j p4] [] p5) (.Name "CountError" p1) p2 "__init__" [.Name "self" p3, .Constant (.str m) j p4] p5 env)
    (hsw : ∀ env : Env, swapsWith (.Call (.Attribute (.Name "CountError" p1) "__init__" p2) [.Name "self" p3, .Constant (.str m) j p4] [] p5) none p6.line env = pure false)
    (hv : ∀ y ∈ (["self", f1, f2] : List Str), (defScope st).names.lookup y = some .local) (hgx : (defScope st).names.lookup ("CountError" : Str) = some .globalImplicit)
    (hd1 : (f1 == ("__debug__" : Str)) = false := by decide) (hcd1 : (f1 == ("__classdict__" : Str)) = false := by decide) (hd2 : (f2 == ("__debug__" : Str)) = false := by decide) (hcd2 : (f2 == ("__classdict__" : Str)) = false := by decide) :
    FnOk P w K mg base (L2.CX P w) (k + 1) f fd ["self", f1, f2] (SpErr K C 2 fun ws => ([f1, f2].zip ws).reverse) := by
  obtain ⟨oc, od, kV, doc, pm, an, cdv, ct, osl, rfl, lk, hcd⟩ := F.ex
  refine fn_of lk hcd S (fun vs H Q E h => ?_) fun A outer s H vs Q E' hr h => ?_
  · obtain ⟨a, ws, rfl, h1, _⟩ := h
    simp [h1]
  · obtain ⟨a, ws, rfl, h1, h2, h3⟩ := h
    obtain ⟨y, z, rfl⟩ : ∃ y z, ws = [y, z] := by
      match ws, h1 with
      | [y, z], _ => exact ⟨y, z, rfl⟩
    rw [hb]
    have v0 := hv ("self" : Str) (by simp)
    have v1 := hv f1 (by simp)
    have v2 := hv f2 (by simp)
    refine ⟨_, pss_cons (init_first hgx J.mgD J.bI rfl (.inl v0) (by decide) (hc _) (hsw _)) (pss_cons (init_new rfl (.inl v0) (i := 1) rfl (.inl v1) hd1 hcd1) (pss_one (init_old rfl (.inl v0) (i := 2) rfl (.inl v2) hd2 hcd2))), ?_⟩
    refine ⟨a, C, rfl, E.oex, h2, a, C, y, rfl, rfl, E.oex, E.no f1 (by simp), h2, fun d hd ne => ?_⟩
    refine ⟨H, a, C, d, _, z, rfl, ne, rfl, rfl, E.oex, E.no f2 (by simp), by simp, ?_⟩
    exact h3 d hd ne
theorem err3 {qual m f1 f2 f3 : Str} {st : Stmt} {f C D : Addr} {fd : FuncData} {k j : Nat} {p1 p2 p3 p4 p5 p6 a1 a2 a3 a4 b1 b2 b3 b4 c1 c2 c3 c4 : Pos} (F : Fun K "__init__" qual st f fd) (S : FnScope ["self", f1, f2, f3] ["self", f1, f2, f3] (defScope st)) (E : ErrC K C f [f1, f2, f3]) (J : Ini mg K D)
    (hb : defBody st = [.Expr (.Call (.Attribute (.Name "CountError" p1) "__init__" p2) [.Name "self" p3, .Constant (.str m) j p4] [] p5) p6, .Assign [.Attribute (.Name "self" a1) f1 a2] (.Name f1 a3) a4, .Assign [.Attribute (.Name "self" b1) f2 b2] (.Name f2 b3) b4, .Assign [.Attribute (.Name "self" c1) f3 c2] (.Name f3 c3) c4])
    (hc : ∀ env : Env, ByMeth (.Call (.Attribute (.Name "CountError" p1) "__init__" p2) [.Name "self" p3, .Constant (.str m) j p4] [] p5) (.Name "CountError" p1) p2 "__init__" [.Name "self" p3, .Constant (.str m) j p4] p5 env)
    (hsw : ∀ env : Env, swapsWith (.Call (.Attribute (.Name "CountError" p1) "__init__" p2) [.Name "self" p3, .Constant (.str m) j p4] [] p5) none p6.line env = pure false)
    (hv : ∀ y ∈ (["self", f1, f2, f3] : List Str), (defScope st).names.lookup y = some .local) (hgx : (defScope st).names.lookup ("CountError" : Str) = some .globalImplicit)
    (hd1 : (f1 == ("__debug__" : Str)) = false := by decide) (hcd1 : (f1 == ("__classdict__" : Str)) = false := by decide) (hd2 : (f2 == ("__debug__" : Str)) = false := by decide) (hcd2 : (f2 == ("__classdict__" : Str)) = false := by decide) (hd3 : (f3 == ("__debug__" : Str)) = false := by decide) (hcd3 : (f3 == ("__classdict__" : Str)) = false := by decide) :
    FnOk P w K mg base (L2.CX P w) (k + 1) f fd ["self", f1, f2, f3] (SpErr K C 3 fun ws => ([f1, f2, f3].zip ws).reverse) := by
  obtain ⟨oc, od, kV, doc, pm, an, cdv, ct, osl, rfl, lk, hcd⟩ := F.ex
  refine fn_of lk hcd S (fun vs H Q E h => ?_) fun A outer s H vs Q E' hr h => ?_
  · obtain ⟨a, ws, rfl, h1, _⟩ := h
    simp [h1]
  · obtain ⟨a, ws, rfl, h1, h2, h3⟩ := h
    obtain ⟨y, z, u, rfl⟩ : ∃ y z u, ws = [y, z, u] := by
      match ws, h1 with
      | [y, z, u], _ => exact ⟨y, z, u, rfl⟩
    rw [hb]
    have v0 := hv ("self" : Str) (by simp)
    have v1 := hv f1 (by simp)
    have v2 := hv f2 (by simp)
    have v3 := hv f3 (by simp)
    refine ⟨_, pss_cons (init_first hgx J.mgD J.bI rfl (.inl v0) (by decide) (hc _) (hsw _)) (pss_cons (init_new rfl (.inl v0) (i := 1) rfl (.inl v1) hd1 hcd1) (pss_cons (init_old rfl (.inl v0) (i := 2) rfl (.inl v2) hd2 hcd2) (pss_one (init_old rfl (.inl v0) (i := 3) rfl (.inl v3) hd3 hcd3)))), ?_⟩
    refine ⟨a, C, rfl, E.oex, h2, a, C, y, rfl, rfl, E.oex, E.no f1 (by simp), h2, fun d hd ne => ?_⟩
    refine ⟨H, a, C, d, _, z, rfl, ne, rfl, rfl, E.oex, E.no f2 (by simp), by simp, ?_⟩
    refine ⟨H, a, C, d, _, u, rfl, ne, rfl, rfl, E.oex, E.no f3 (by simp), by simp, ?_⟩
    exact h3 d hd ne
end

/-! ### raise C(..) -/
def wRaise (C : Addr) (ns : List Str) (G : Addr → List (Str × DV) → List Cell → Prop) (g : DA) : WS := fun D env => g env fun xs e => xs.length = ns.length ∧ G C ((ns.zip xs).reverse) e
theorem zip_hold {K : PySem.W.Frag} {F : Hp} : ∀ (ns : List Str) {vs : List V} {xs : List DV}, HoldAll K F vs xs → (ns.zip vs).map (·.1) = (ns.zip xs).map (·.1) ∧ HoldAll K F ((ns.zip vs).map (·.2)) ((ns.zip xs).map (·.2))
  | [], _, _, _ => ⟨rfl, .nil⟩
  | _ :: _, _, _, .nil => ⟨rfl, .nil⟩
  | n :: ns, _, _, .cons h t => by
    obtain ⟨i1, i2⟩ := zip_hold ns t
    exact ⟨by simp [i1], .cons h i2⟩
section
variable {X : Cx} {Z : ZX} {k : Nat} {C fI : Addr} {fd : FuncData} {ns : List Str} {ca : Nat} {x : Str} {p pos pos' : Pos} {e : Expr} {es : List Expr} {g : DA}
theorem psRaise (hc : X.calm = true) (tk : Takes X fun cls d _ H => Z.E cls d H) (E : ErrC X.K C fI ns) (hns : ns.length ≤ 3) (F : FnOk X.prog X.w X.K X.mg X.base (L2.CX X.prog X.w) k fI fd ("self" :: ns) (SpErr X.K C ns.length fun ws => (ns.zip ws).reverse)) (hr : Room (k + 1) X.A) (hb : Binds X.K fd ("self" :: ns) []) (hg : Gl X x) (hm : X.mg x = some (.ref C))
    (ha : PAd X Z (e :: es) ca g) (hdb : (x == ("__debug__" : Str)) = false := by decide) (he : starEach (e :: es) X.env = (false, eval e X.env) :: starEach es X.env := by rfl) (hpl : (backTo pos (starEach es X.env)).any (·.1) = false := by rfl) :
    PSd X Z (.Raise (some (.Call (.Name x p) (e :: es) [] pos)) none pos') ca (wRaise C ns Z.G g) := by
  refine ⟨fun D D' env l h => h, PS_imp (ps_raise hc tk (pmk_oex E.oex E.init E.ty F hr hb .nil passF hg hm ha.run hdb he hpl)) fun D σ H ⟨B, F0, n, env, hn, S, h⟩ => ?_⟩
  refine bindA ha.mono hn S h fun xs e1 vs H1 F1 h1 S1 x1 hv => ?_
  obtain ⟨hl, gx⟩ := h1
  have hlv : vs.length = ns.length := hv.length.trans hl
  refine ⟨by omega, fun a hna => ⟨a, vs, by simp, hlv, upd_same, fun d hd ne => ⟨rfl, ?_⟩⟩⟩
  have hd1 : H1 d = none := by rw [upd_ne ne] at hd; exact hd
  have hz := zip_hold (K := X.K) (F := F1) ns hv
  refine ⟨d, (ns.zip vs).reverse, upd_same, by unfold errH; rw [upd_ne ne, upd_same], hd1, ?_⟩
  have eH : upd (del (errH (upd H1 a (exo a C none)) a C d (ns.zip vs).reverse) a) d (.xd (ns.zip vs).reverse) = upd H1 d (.xd (ns.zip vs).reverse) := by
    funext b
    by_cases b1 : b = d
    · subst b1
      rw [upd_same, upd_same]
    · rw [upd_ne b1, upd_ne b1]
      by_cases b2 : b = a
      · subst b2
        rw [del_same, hna]
      · unfold errH
        rw [del_ne b2, upd_ne b2, upd_ne b1, upd_ne b2]
  rw [eH]
  have S2 := S1.allocO (o := .xd (ns.zip vs).reverse) hd1
  refine S1.lnk.2 F1 _ (n + ca) σ e1 C d _ S2.toCore (Ext.refl _) (Nat.le_refl _) hn ⟨_, upd_same, ?_, ?_⟩ (S1.fresh0 hd1) gx
  · rw [List.map_reverse, List.map_reverse, hz.1]
  · rw [List.map_reverse, List.map_reverse]
    exact hz.2.reverse
end
end DL
set_option maxRecDepth 100000
set_option maxHeartbeats 4000000
namespace DL
open PySem PySem.Spec PyProof.Rows L2
/-! ### a tuple times 1 is itself; times 0 it is empty -/
def rRepT0 (K : PySem.W.Frag) : R2 := fun x y H Q => ∃ l xs, x = .ref l ∧ SqT K H l xs ∧ xs ≠ [] ∧ ((y = .int 1 ∧ Q (.ref l) H) ∨ (y = .int 0 ∧ ∀ p, H p = none → Q (.ref p) (upd H p (.tup []))))
def gMulT : DV → DV → (Cell → Prop) → Prop := fun x y Q => match x, y with
  | .tup xs, .int k => (xs ≠ [] ∧ 0 ≤ k ∧ k ≤ 1000 ∧ xs.length ≤ 1000) ∧ Q (.d (.tup (List.replicate k.toNat xs).flatten))
  | _, _ => False
/-! ### repr of data (outside of all repr) -/
def DV.shown : DV → Nat → Option Str
  | d, m => if d.ok 60 = true ∧ d.py.showable = true ∧ d.py.shown.length ≤ m then some d.py.shown else none
def gRepr : DV → (Cell → Prop) → Prop := fun x Q => (x.ok 60 = true ∧ x.py.showable = true ∧ x.py.shown.length ≤ sizeLine) ∧ Q (.d (.str x.py.shown))
def rRepr (K : PySem.W.Frag) : List V → Hp → VK → Prop := fun xs H Q => ∃ x d, xs = [x] ∧ Dp K H x d ∧ d.showable = true ∧ d.hasDict = false ∧ d.depth ≤ 60 ∧ d.shown.length ≤ sizeLine ∧ Q (.str d.shown) H
/-- .. of a dict whose values are flat -/
def flatPy : DV → PyData := DV.py
def kvPy (kvs : List (Key × DV)) : List (PyData × PyData) := kvs.map fun kv => ((keyDV kv.1).py, kv.2.py)
def gReprK : DV → (Cell → Prop) → Prop := fun x Q => match x with
  | .dk kvs => (kvs.all (fun kv => flatD kv.2) = true ∧ (PyData.dict (kvPy kvs)).showable = true ∧ (PyData.dict (kvPy kvs)).depth ≤ 60 ∧ (PyData.dict (kvPy kvs)).shown.length ≤ sizeLine) ∧ Q (.d (.str (PyData.dict (kvPy kvs)).shown))
  | _ => False
def rReprK (K : PySem.W.Frag) : List V → Hp → VK → Prop := fun xs H Q => ∃ a F us kvs, xs = [V.ref a] ∧ Rd H a (.dK us) ∧ HKV K F us kvs ∧ (kvs.all (fun kv => flatD kv.2) = true ∧ (PyData.dict (kvPy kvs)).showable = true ∧ (PyData.dict (kvPy kvs)).depth ≤ 60 ∧ (PyData.dict (kvPy kvs)).shown.length ≤ sizeLine) ∧ Q (.str (PyData.dict (kvPy kvs)).shown) H
def gReprA : DV → (Cell → Prop) → Prop := fun x Q => gRepr x Q ∨ gReprK x Q
/-! ### a written dict with keys that are numbers -/
structure WDict (K : PySem.W.Frag) (a : Addr) (kvs : List (Int × (V × DV))) : Prop where
  low : (a == sysModules) = false
  at_ : ∃ es n, K.lookup a = some ⟨.type "dict", none, .dict es n, #[]⟩ ∧ (∀ e ∈ es, ∃ k, Value.isInt k e.key = true ∧ e.hash = hashInt k) ∧
    ∀ k, (∀ p, kvs.lookup k = some p → ∃ u, findBy Value.isInt es k = some u ∧ RelV p.1 u) ∧ (kvs.lookup k = none → findBy Value.isInt es k = none)
  val : ∀ F k p, kvs.lookup k = some p → Hold K F p.1 p.2
section
variable {X : Cx} {a : Addr} {kvs : List (Int × (V × DV))}
theorem WDict.map (D : WDict X.K a kvs) {pins : List (Addr × Obj)} {σ : L2.St} {H : Hp} {s : Shared} (I : Inv X pins σ H s) : ∃ f, s.heap.MapOf (intKind X.prog X.w) a f ∧ ∀ k, (∀ p, kvs.lookup k = some p → ∃ u, f k = some u ∧ RelV p.1 u) ∧ (kvs.lookup k = none → f k = none) := by
  obtain ⟨es, n, h1, h2, h3⟩ := D.at_
  exact ⟨_, ⟨_, es, n, I.kIn _ _ h1, ⟨rfl, rfl, rfl⟩, rfl, fun e he => h2 e he, fun _ => rfl⟩, h3⟩
def gInW (kvs : List (Int × (V × DV))) (a : Addr) (neg : Bool) : DV → DV → (Bool → Prop) → Prop := fun x y Q => match x, y with
  | .int i, .ref b => b = a ∧ Q (xorB neg (kvs.lookup i).isSome)
  | _, _ => False
end
def gIxW (kvs : List (Int × (V × DV))) (a : Addr) : DV → DV → (DV → Prop) → Prop := fun x y Q => match x, y with
  | .ref b, .int i => b = a ∧ optP (kvs.lookup i) fun p => Q p.2
  | _, _ => False
section
variable {X : Cx} {Z : ZX} {a b : Expr} {ca cb : Nat} {fa fb : DD} {pos : Pos} {w : Addr} {kvs : List (Int × (V × DV))}
end

/-! ### x += e, numbers -/
def wAugI (h : Int → Int → Int) (i : Nat) (f : DD) : WS := fun D env => ∃ k, env[i]? = some (.d (.int k)) ∧ f env fun d e => match d with
  | .int m => okSet e i ∧ D.nx (e.set i (.d (.int (h k m))))
  | _ => False
end DL
set_option maxRecDepth 100000
set_option maxHeartbeats 4000000
namespace DL
open PySem PySem.Spec PyProof.Rows L2
section
variable {P : Program} {w : World} {K : PySem.W.Frag} {mg : Str → Option Value} {base : Heap} {N : List Str} {qual : Str} {scope : Scope} {f : Addr} {cd : Value} {A : Around} {outer : List Env} {s : Shared} {H : Hp} {E : XK}
theorem takesD : Takes (cxOf (L2.CX P w) P w K mg base N qual scope f cd A outer s H E) (fun cls d _ H => E cls d H) := takes_of rfl rfl rfl rfl
theorem passD : Passes (L2.CX P w) (cxOf (L2.CX P w) P w K mg base N qual scope f cd A outer s H E) E := passes_call takesD fun _ _ _ _ h => h
theorem ownD : PassesOwn (model P w) (cxOf (L2.CX P w) P w K mg base N qual scope f cd A outer s H E).A (cxOf (L2.CX P w) P w K mg base N qual scope f cd A outer s H E).env (cxOf (L2.CX P w) P w K mg base N qual scope f cd A outer s H E).xe := passes_of rfl
end
theorem u1 {k : Nat} {A : Around} (r : Room k A) : A.units + 1 < cLine := by have := r.un; omega
theorem u65 {k : Nat} {A : Around} (r : Room k A) : A.units + 65 < cLine := by have := r.un; omega
abbrev dSub (a b : DD) : DD := dOp2d (gI0 fun i j => .int (i - j)) a b
abbrev dMod (a b : DD) : DD := dOp2d (gI2 (fun _ j => 0 < j) fun i j => .int (i % j)) a b
abbrev dFdiv (a b : DD) : DD := dOp2d (gI2 CDivW fun i j => .int (i / j)) a b
abbrev dPow (a b : DD) : DD := dOp2d (gI2 CPowW fun i j => .int (i ^ j.toNat)) a b
abbrev tLt (a b : DD) : DT := dCmp (gB2 fun i j => decide (i < j)) a b
abbrev tLe (a b : DD) : DT := dCmp (gB2 fun i j => decide (i ≤ j)) a b
abbrev tGt (a b : DD) : DT := dCmp (gB2 fun i j => decide (j < i)) a b
abbrev tGe (a b : DD) : DT := dCmp (gB2 fun i j => decide (j ≤ i)) a b
abbrev tEq (a b : DD) : DT := dCmp (gEq false) a b
abbrev tNe (a b : DD) : DT := dCmp (gEq true) a b
theorem seq_gen {u w : WS} {D : EndsD} {env : List Cell} (h : ∀ k : List Cell → Prop, w D = k → u { D with nx := k } env) : wSeq u w D env := h _ rfl
end DL
set_option maxRecDepth 100000
set_option maxHeartbeats 4000000
namespace DL
open PySem PySem.Spec PyProof.Rows L2
/-! ### the pen -/
def penKV (cs : List Int) (i g k f : Int) : List (Key × DV) := [(.inr "cells", .lst (cs.map DV.int)), (.inr "at", .int i), (.inr "digits", .int g), (.inr "count", .int k), (.inr "fold", .int f)]
structure PenR (i g k f : Int) (n : Nat) : Prop where
  i0 : 0 ≤ i
  g0 : 0 ≤ g
  k0 : 0 ≤ k
  kn : k ≤ (n : Int)
  f0 : 0 ≤ f
  f1 : f < 2147483587
section
variable {K : PySem.W.Frag} {F H : Hp} {n : Nat} {a : Addr}
theorem pen_in (h : PenAt K F H n a) : ∃ cs i g k f, OCOk K F H n a (.k (penKV cs i g k f)) ∧ PenR i g k f n := by
  obtain ⟨lc, cs, i, g, k, f, h1, h2, h3, h4, h5, h6, h7, h8⟩ := h
  exact ⟨cs, i, g, k, f, ⟨_, h1, rfl, .cons h2 (.cons (.int _) (.cons (.int _) (.cons (.int _) (.cons (.int _) .nil))))⟩, h3, h4, h5, h6, h7, h8⟩
theorem pen_out {cs : List Int} {i g k f : Int} (h : OCOk K F H n a (.k (penKV cs i g k f))) (r : PenR i g k f n) : PenAt K F H n a := by
  obtain ⟨us, h1, h2, h3⟩ := h
  match us, h2, h3 with
  | [(_, v1), (_, v2), (_, v3), (_, v4), (_, v5)], h2, h3 =>
    injection h2 with e1 h2
    injection h2 with e2 h2
    injection h2 with e3 h2
    injection h2 with e4 h2
    injection h2 with e5 h2
    dsimp only at e1 e2 e3 e4 e5
    subst e1; subst e2; subst e3; subst e4; subst e5
    cases h3 with
    | cons w1 h3 => cases h3 with
      | cons w2 h3 => cases h3 with
        | cons w3 h3 => cases h3 with
          | cons w4 h3 => cases h3 with
            | cons w5 h3 =>
              dsimp only at w1 w2 w3 w4 w5
              cases w2; cases w3; cases w4; cases w5
              have w1' := w1
              cases w1 with
              | lst q r' => exact ⟨_, cs, i, g, k, f, h1, w1', r.i0, r.g0, r.k0, r.kn, r.f0, r.f1⟩
end
section
variable (c : List Int) (i g k f x : Int)
theorem pen_cells : (lookD (.dk (penKV c i g k f)) (.str "cells")).bind id = some (.lst (c.map DV.int)) := by with_unfolding_all rfl
theorem pen_at : (lookD (.dk (penKV c i g k f)) (.str "at")).bind id = some (.int i) := by with_unfolding_all rfl
theorem pen_digits : (lookD (.dk (penKV c i g k f)) (.str "digits")).bind id = some (.int g) := by with_unfolding_all rfl
theorem pen_count : (lookD (.dk (penKV c i g k f)) (.str "count")).bind id = some (.int k) := by with_unfolding_all rfl
theorem pen_fold : (lookD (.dk (penKV c i g k f)) (.str "fold")).bind id = some (.int f) := by with_unfolding_all rfl
theorem put_at : putD (penKV c i g k f) (.inr "at") (.int x) = penKV c x g k f := by with_unfolding_all rfl
theorem put_digits : putD (penKV c i g k f) (.inr "digits") (.int x) = penKV c i x k f := by with_unfolding_all rfl
theorem put_count : putD (penKV c i g k f) (.inr "count") (.int x) = penKV c i g x f := by with_unfolding_all rfl
theorem put_fold : putD (penKV c i g k f) (.inr "fold") (.int x) = penKV c i g k x := by with_unfolding_all rfl
theorem pen_len : (penKV c i g k f).length < LINE := by show 5 < 16777216; decide
end
theorem ok_int (k : Nat) (i : Int) : DV.ok k (.int i) = true := by cases k <;> rfl
theorem eqD_int (a b : Int) : eqD (.int a) (.int b) = decide (a = b) := by
  unfold eqD DV.py
  simp only [PyData.eqv]
  exact Bool.eq_iff_iff.mpr (by rw [beq_iff_eq, decide_eq_true_iff])
theorem ite_dec {p : Prop} [Decidable p] {a b : Prop} (h : p → a) (h' : ¬ p → b) : if decide p = true then a else b := by
  split
  · exact h (of_decide_eq_true ‹_›)
  · exact h' (fun z => absurd (decide_eq_true z) ‹_›)
theorem pow17 {x : Int} (h0 : 0 ≤ x) (h : x < 1267650600228229401496703205376 * (LIM : Int)) : CPowW x 17 := by
  refine ⟨by decide, ?_⟩
  have b : Builtin.Int.intBits x ≤ x.natAbs.log2 + 1 := by
    unfold Builtin.Int.intBits
    split <;> omega
  have hn : x.natAbs < 1267650600228229401496703205376 * LIM := by
    have e : ((x.natAbs : Nat) : Int) = x := by omega
    have h2 : ((x.natAbs : Nat) : Int) < ((1267650600228229401496703205376 * LIM : Nat) : Int) := by rw [e, Int.natCast_mul]; exact h
    exact Int.ofNat_lt.mp h2
  have hl : x.natAbs.log2 < 4100 := by
    by_cases hz : x.natAbs = 0
    · rw [hz]
      decide
    · refine (Nat.log2_lt hz).mpr ?_
      have e2 : (2 : Nat) ^ 4100 = 1267650600228229401496703205376 * LIM := by
        unfold LIM
        rw [show (4100 : Nat) = 100 + 4000 from rfl, Nat.pow_add]
      rw [e2]
      exact hn
  have h3 : (Builtin.Int.intBits x : Int) * 17 ≤ (4101 : Int) * 17 := by omega
  exact Int.le_trans h3 (by decide)
theorem lim1 : (1 : Int) ≤ (LIM : Int) := by
  have h : 1 ≤ LIM := Nat.one_le_two_pow
  omega
theorem atI_in {xs : List DV} {i : Int} (h0 : 0 ≤ i) (h1 : i < (xs.length : Int)) : ∃ d, xs[i.toNat]? = some d ∧ atI xs i = some d := by
  have hl : i.toNat < xs.length := by omega
  refine ⟨xs[i.toNat], List.getElem?_eq_getElem hl, ?_⟩
  unfold atI ixN
  rw [if_pos h0, if_pos h1]
  exact List.getElem?_eq_getElem hl
theorem atI_int {c : List Int} {i : Int} (h0 : 0 ≤ i) (h1 : i < ((c.map DV.int).length : Int)) : ∃ x, atI (c.map DV.int) i = some (.int x) := by
  obtain ⟨d, e1, e2⟩ := atI_in h0 h1
  rw [List.getElem?_map] at e1
  cases hc : c[i.toNat]? with
  | none => rw [hc] at e1; cases e1
  | some x =>
    rw [hc] at e1
    cases e1
    exact ⟨x, e2⟩
/-- draw: by the pen's fields; by the pen -/
def conDrawK : Con := fun cs P _ => ∃ b m c i g k f, cs = [.o b (.k (penKV c i g k f)), .d (.int m)] ∧ (0 < m ∧ m.natAbs.log2 < 9000) ∧ PenR i g k f LIM ∧
  ∀ r i' g' f', 0 ≤ r → r < m → PenR i' g' k f' LIM → P (.d (.int r)) [.k (penKV c i' g' (k + 1) f')]
def conDraw : Con := fun cs P _ => match cs with
  | [.o _ .pen, .d (.int m)] => (0 < m ∧ m.natAbs.log2 < 9000) ∧ ∀ r, 0 ≤ r → r < m → P (.d (.int r)) [.pen]
  | _ => False
def conPenK : Con := fun cs P _ => ∃ ns : List Int, (cs = [.d (.klst (ns.map DV.int))] ∧ ns.length ≤ 1000) ∧ ∀ f, 0 ≤ f → f < 2147483587 → P (.o false (.k (penKV ns 0 0 0 f))) []
def conPen : Con := fun cs P _ => ∃ ns : List Int, (cs = [.d (.klst (ns.map DV.int))] ∧ ns.length ≤ 1000) ∧ P (.o false .pen) []
theorem conDraw_inv {cs : List Cell} {P : Cell → List OC → Prop} {Y : Addr → List (Str × DV) → List OC → Prop} (h : conDraw cs P Y) : ∃ b m, cs = [.o b .pen, .d (.int m)] ∧ (0 < m ∧ m.natAbs.log2 < 9000) ∧ ∀ r, 0 ≤ r → r < m → P (.d (.int r)) [.pen] := by
  unfold conDraw at h
  split at h
  · exact ⟨_, _, rfl, h⟩
  · exact h.elim
theorem mono_conDraw : ConMono conDraw := fun cs P P2 Y Y2 hP hY q => by
  obtain ⟨b, m, rfl, h, p⟩ := conDraw_inv q
  exact ⟨h, fun r h1 h2 => hP _ _ (p r h1 h2)⟩
theorem mono_conPen : ConMono conPen := fun cs P P2 Y Y2 hP hY ⟨b, e, p⟩ => ⟨b, e, hP _ _ p⟩
section
variable {P : Program} {w : World} {K : PySem.W.Frag} {mg : Str → Option Value} {base : Heap} {CX : CXT} {k : Nat} {f : Addr} {fd : FuncData} {ps : List Str} {T : List (Addr × Str)}
theorem draw_ok (G : FnOk P w K mg base CX k f fd ps (SpD K T 0 conDrawK)) : FnOk P w K mg base CX k f fd ps (SpD K T 1 conDraw) := by
  refine G.imp fun vs H Q E ⟨F, n, cs, M, hn, s, ht, hp, nd, q⟩ => ?_
  obtain ⟨b, m, rfl, hm, q⟩ := conDraw_inv q
  obtain ⟨v, u, rfl⟩ : ∃ v u, vs = [v, u] := by
    cases vs with
    | nil => exact hp.elim
    | cons v vs => cases vs with
      | nil => exact hp.2.elim
      | cons u vs => cases vs with
        | nil => exact ⟨v, u, rfl⟩
        | cons _ _ => exact hp.2.2.elim
  · obtain ⟨⟨a, e1, hF, hO⟩, hu, _⟩ := hp
    subst e1
    have hu' := hu
    cases hu
    obtain ⟨c, i, g, k, f, hK, hR⟩ := pen_in hO
    have hn1 : n + 1 ≤ LIM := Nat.le_trans hn.1 hn.2
    refine ⟨F, n, [.o b (.k (penKV c i g k f)), .d (.int m)], M, ⟨by omega, hn.2⟩, s, ht, ⟨⟨a, rfl, hF, hK⟩, hu', trivial⟩, nd, b, m, c, i, g, k, f, rfl, hm, ⟨hR.i0, hR.g0, hR.k0, by have := hR.kn; omega, hR.f0, hR.f1⟩, fun r i' g' f' r0 r1 R' v H' F' pd => q r r0 r1 v H' F' ?_⟩
    obtain ⟨⟨x1, x2, x3, x4, x5, x6, x7, x8⟩, res⟩ := pd
    have one : ∀ {i : Nat} {a' : Addr}, (borA [V.ref a, V.int m] [Cell.o b OC.pen, Cell.d (DV.int m)])[i]? = some a' → i = 0 := fun {i a'} e => by
      match i, e with
      | 0, _ => rfl
      | i + 1, e =>
        simp [borA] at e
    refine ⟨⟨x1, x2, x3, x4, x5, x6, ?_, fun i j a1 a2 c1 c2 x e1 _ e2 _ _ _ => (one e1).trans (one e2).symm⟩, ?_⟩
    · cases x7 with
      | cons y ys =>
        cases ys
        exact .cons ⟨y.1, pen_out (n := n + 1) (y.2.mono (Ext.refl _) (by omega) fun _ _ => rfl) ⟨R'.i0, R'.g0, by have := R'.k0; omega, by have := hR.kn; omega, R'.f0, R'.f1⟩⟩ .nil
    · exact res
theorem pen_ok (G : FnOk P w K mg base CX k f fd ps (SpD K T 0 conPenK)) : FnOk P w K mg base CX k f fd ps (SpD K T 0 conPen) := by
  refine G.imp fun vs H Q E ⟨F, n, cs, M, hn, s, ht, hp, nd, ns, ⟨e, hl⟩, q⟩ => ?_
  subst e
  refine ⟨F, n, _, M, hn, s, ht, hp, nd, ns, ⟨rfl, hl⟩, fun f f0 f1 v H' F' pd => q v H' F' ?_⟩
  obtain ⟨fr, res⟩ := pd
  refine ⟨fr, ?_⟩
  obtain ⟨rb, a, rv, r0, r2⟩ := res
  exact ⟨rb, a, rv, r0, pen_out r2 ⟨Int.le_refl _, Int.le_refl _, Int.le_refl _, by omega, f0, f1⟩⟩
end
end DL
set_option maxRecDepth 100000
set_option maxHeartbeats 4000000
namespace DL
open PySem PySem.Spec PyProof.Rows L2
/-! ### promises of defs that only compute -/
def dataOf : List Cell → Option (List DV)
  | [] => some []
  | .d x :: cs => (dataOf cs).map (x :: ·)
  | _ :: _ => none
/-- what comes out: a value, an error -/
inductive Out where
  | ret (d : DV) | err (C : Addr) (fs : List (Str × DV))
def Out.to (r : Out) (P : Cell → List OC → Prop) (Y : Addr → List (Str × DV) → List OC → Prop) : Prop := match r with
  | .ret d => P (.d d) []
  | .err C fs => Y C fs []
def conF (n : Nat) (f : List DV → Option Out) : Con := fun cs P Y => optP (dataOf cs) fun xs => xs.length = n ∧ optP (f xs) fun r => r.to P Y
theorem dataOf_some : ∀ {cs : List Cell} {xs : List DV}, dataOf cs = some xs → cs = xs.map Cell.d
  | [], xs, h => by cases h; rfl
  | .d x :: cs, xs, h => by
    unfold dataOf at h
    cases e : dataOf cs with
    | none => rw [e] at h; cases h
    | some ys =>
      rw [e] at h
      cases h
      rw [List.map_cons, ← dataOf_some e]
  | .un :: _, _, h => by cases h
  | .o _ _ :: _, _, h => by cases h
theorem conF_inv {n : Nat} {f : List DV → Option Out} {cs : List Cell} {P : Cell → List OC → Prop} {Y : Addr → List (Str × DV) → List OC → Prop} (h : conF n f cs P Y) : ∃ xs r, cs = xs.map Cell.d ∧ xs.length = n ∧ f xs = some r ∧ r.to P Y := by
  obtain ⟨xs, e, hl, q⟩ := optP_some h
  obtain ⟨r, e2, q⟩ := optP_some q
  exact ⟨xs, r, dataOf_some e, hl, e2, q⟩
theorem conF_len {n : Nat} {f : List DV → Option Out} (cs : List Cell) (P : Cell → List OC → Prop) (Y : Addr → List (Str × DV) → List OC → Prop) (h : conF n f cs P Y) : cs.length = n := by
  obtain ⟨xs, r, rfl, hl, _⟩ := conF_inv h
  rw [List.length_map]
  exact hl
theorem mono_conF {n : Nat} {f : List DV → Option Out} : ConMono (conF n f) := fun cs P P2 Y Y2 hP hY h => by
  unfold conF at *
  revert h
  cases dataOf cs with
  | none => exact id
  | some xs =>
    rintro ⟨hl, h⟩
    refine ⟨hl, ?_⟩
    revert h
    cases f xs with
    | none => exact id
    | some r =>
      cases r with
      | ret d => exact hP _ _
      | err C fs => exact hY _ _ _
theorem one_of {α : Type} {xs : List α} (h : xs.length = 1) : ∃ x, xs = [x] := match xs, h with
  | [x], _ => ⟨x, rfl⟩
theorem ramp_succ (lo : Int) (n : Nat) : ramp lo (n + 1) = .int lo :: ramp (lo + 1) n := by
  unfold ramp
  rw [List.range_succ_eq_map, List.map_cons, List.map_map]
  congr 1
  · show DV.int (lo + 0) = _
    rw [Int.add_zero]
  · refine List.map_congr_left fun i _ => ?_
    show DV.int (lo + ((i + 1 : Nat) : Int)) = DV.int (lo + 1 + (i : Int))
    congr 1
    omega
theorem dI_lst (xs : List DV) : dItems (.lst xs) = some xs := rfl
theorem dI_klst (xs : List DV) : dItems (.klst xs) = some xs := rfl
theorem dI_tup (xs : List DV) : dItems (.tup xs) = some xs := rfl
theorem dI_ktup (xs : List DV) : dItems (.ktup xs) = some xs := rfl
theorem iD_lst (xs : List DV) : itemsD (.lst xs) = some xs := rfl
theorem iD_klst (xs : List DV) : itemsD (.klst xs) = some xs := rfl
theorem iD_tup (xs : List DV) : itemsD (.tup xs) = some xs := rfl
theorem iD_ktup (xs : List DV) : itemsD (.ktup xs) = some xs := rfl
theorem ln_lst (xs : List DV) : lenD (.lst xs) = some xs.length := rfl
theorem ln_klst (xs : List DV) : lenD (.klst xs) = some xs.length := rfl
theorem ln_tup (xs : List DV) : lenD (.tup xs) = some xs.length := rfl
theorem ln_ktup (xs : List DV) : lenD (.ktup xs) = some xs.length := rfl
def seqB : DV → Option Bool
  | .tup _ => some true
  | .ktup _ => some true
  | .lst _ => some true
  | .int _ => some false
  | .bl _ => some false
  | .non => some false
  | .str _ => some false
  | .dk _ => some false
  | _ => none
def dSeq : DV → Option (List DV)
  | .lst xs => some xs
  | .tup xs => some xs
  | .ktup xs => some xs
  | _ => none
def conPick : Con := fun cs P _ => match cs with
  | [.o _ .pen, .d l] => optP (dSeq l) fun xs => (xs ≠ [] ∧ xs.length ≤ 1000000) ∧ ∀ d ∈ xs, P (.d d) [.pen]
  | _ => False
theorem conPick_inv {cs : List Cell} {P : Cell → List OC → Prop} {Y : Addr → List (Str × DV) → List OC → Prop} (h : conPick cs P Y) : ∃ b l xs, cs = [.o b .pen, .d l] ∧ dSeq l = some xs ∧ (xs ≠ [] ∧ xs.length ≤ 1000000) ∧ ∀ d ∈ xs, P (.d d) [.pen] := by
  unfold conPick at h
  split at h
  · obtain ⟨xs, e, h⟩ := optP_some h
    exact ⟨_, _, xs, rfl, e, h⟩
  · exact h.elim
theorem conPick_mk {b : Bool} {l : DV} {xs : List DV} {P : Cell → List OC → Prop} {Y : Addr → List (Str × DV) → List OC → Prop} (e : dSeq l = some xs) (h : xs ≠ [] ∧ xs.length ≤ 1000000) (q : ∀ d ∈ xs, P (.d d) [.pen]) : conPick [.o b .pen, .d l] P Y := by
  show optP (dSeq l) _
  rw [e]
  exact ⟨h, q⟩
theorem mono_conPick : ConMono conPick := fun cs P P2 Y Y2 hP hY q => by
  obtain ⟨b, l, xs, rfl, e, h, p⟩ := conPick_inv q
  exact conPick_mk e h fun d hd => hP _ _ (p d hd)
theorem log_small {n : Nat} (h : n ≤ 1000000) : n.log2 < 9000 := by
  by_cases hz : n = 0
  · rw [hz]
    decide
  · exact Nat.lt_of_lt_of_le ((Nat.log2_lt hz).mpr (Nat.lt_of_le_of_lt h (by decide : 1000000 < 2 ^ 20))) (by decide)
end DL
set_option maxRecDepth 100000
set_option maxHeartbeats 4000000
namespace DL
open PySem PySem.Spec PyProof.Rows L2
/-! ### several except clauses, each with a name -/
/-- a clause: what it names, the slot of its name, its suite's reading -/
abbrev Cl := Value × Nat × (Addr → Value → Option Addr → TS)
/-- behind a suite the clause's name is gone -/
def gone (i : Nat) (D : Ends) : Ends := { nx := fun σ H => D.nx (σ.set i none) H, rt := D.rt, bk := fun σ H => D.bk (σ.set i none) H, ct := fun σ H => D.ct (σ.set i none) H }
def wManyN (K : PySem.W.Frag) (N : Nat) (Wout : WX) (D : Ends) : List Cl → WX
  | [] => Wout
  | c :: r => fun cls d σ H => ∃ b, PySem.W.exmOne K cls c.1 = some b ∧
    (b = true → ∀ a, H a = none → σ.length = N → c.2.2 a cls d (gone c.2.1 D) (σ.set c.2.1 (some (.ref a))) H) ∧ (b = false → wManyN K N Wout D r cls d σ H)
/-- one clause is read so -/
structure Clause (X : Cx) (x n : Str) (b₀ : Stmt) (suite : List Stmt) (c : Cl) : Prop where
  slot : X.N[c.2.1]? = some n
  loc : X.env.kindOf n = some .local
  names : Names X x c.1
  body : ∀ (a : Addr) (o : Obj) (cls : Value) (d : Option Addr) (pn : List (Addr × Obj)), Zc cls d o → (∃ vs, o.data = .fields vs) → PSs (X.suite a ((a, o) :: pn)) (b₀ :: suite) (c.2.2 a cls d)
inductive HdsN (X : Cx) : List ExceptHandler → List Cl → Prop
  | nil : HdsN X [] []
  | cons {x n : Str} {b₀ : Stmt} {suite : List Stmt} {c : Cl} {np pos' : Pos} {hds : List ExceptHandler} {l : List Cl} (h : Clause X x n b₀ suite c) (r : HdsN X hds l) :
      HdsN X (.ExceptHandler (some (.Name x np)) (some n) (b₀ :: suite) pos' :: hds) (c :: l)
/-- an error at a has come down: sI the state that is known, s the one that runs, its heap at h -/
structure Down (X : Cx) (pins : List (Addr × Obj)) (a : Addr) (B : Heap) (cls : Value) (d : Option Addr) (σ : L2.St) (H : Hp) (sI s : Shared) (h : Heap) : Prop where
  was : Inv X pins σ H sI
  kept : ∀ b o, sI.heap.get? b = some o → b ∉ frs X.stack → B.get? b = some o
  up : sI.heap.UpToSlots h
  os : s.os = sI.os
  gens : AllBare s.gens
  new : H a = none
  fly : HandSPX.FlyingZ B (X.env :: X.outer) a (Zc cls d) h
/-- its code's frame stands at the top -/
structure Top1 (X : Cx) : Prop where
  stk : X.stack = X.env :: X.outer
  frame : X.env.frame = some X.env.locals
section
variable {X : Cx} {pins : List (Addr × Obj)} {a : Addr} {B : Heap} {cls : Value} {d : Option Addr} {σ : L2.St} {H : Hp} {sI s : Shared} {h : Heap}
theorem Down.inv (w : Down X pins a B cls d σ H sI s h) : Inv X pins σ H { s with heap := h } := w.was.landed w.kept w.fly.1 w.up w.os w.gens
theorem Down.off (w : Down X pins a B cls d σ H sI s h) : a ∉ frs (X.env :: X.outer) := by
  obtain ⟨o, vs, e, _, dt⟩ := w.fly.there
  intro m
  obtain ⟨_, o', e', no⟩ := w.fly.2.2.1.mem m
  obtain rfl := Option.some.inj (e.symm.trans e')
  exact no _ dt
/-- a suite may start -/
theorem Down.suite (T : Top1 X) (w : Down X pins a B cls d σ H sI s h) : ∃ o, Zc cls d o ∧ (∃ vs, o.data = .fields vs) ∧ h.get? a = some o ∧ Inv (X.suite a ((a, o) :: (X.pn ++ pins))) [] σ H { s with heap := h } := by
  obtain ⟨o, vs, e, z, dt⟩ := w.fly.there
  refine ⟨o, z, ⟨vs, dt⟩, e, w.inv.suite e dt w.new (fun q => w.off ?_) fun m => w.off ?_⟩
  · exact List.mem_filterMap.mpr ⟨X.env, List.mem_cons_self, by rw [T.frame, q]⟩
  · obtain ⟨v, hv, q⟩ := List.mem_filterMap.mp m
    exact List.mem_filterMap.mpr ⟨v, List.mem_cons_of_mem _ hv, q⟩
theorem Down.again {M : Model} {A : Around} {E : Value → Shared → Prop} {Q : Unit → Shared → Prop} (w : Down X pins a B cls d σ H sI s h) (q : ∀ h', Down X pins a B cls d σ H sI s h' → Q () { s with heap := h' }) :
    wpAny M A (setFlight (.ref a) none) Q E { s with heap := h } :=
  HandSPX.lands_againZ w.fly fun h' f u => q h' { w with fly := f, up := w.up.trans u }
/-- what a clause names is looked up -/
theorem Down.look {x : Str} {c : Value} {np : Pos} (T : Top1 X) (w : Down X pins a B cls d σ H sI s h) (N : Names X x c) {Q E : Value → Shared → Prop} (q : Q c { s with heap := h }) :
    wpAny (model X.prog X.w) (X.A.mark (some (.ref a))) (eval (.Name x np) X.env) Q E { s with heap := h } := by
  obtain ⟨o, _, _, _, I⟩ := w.suite T
  rcases N with ⟨g, nd, m | ⟨m, v, nn⟩⟩
  · exact ld_glob (X := X.suite a ((a, o) :: (X.pn ++ pins))) I g m q nd
  · exact ld_blt (X := X.suite a ((a, o) :: (X.pn ++ pins))) I g m v q nn nd
/-- .. and the error is held against it -/
theorem Down.match {c : Value} {b : Bool} (w : Down X pins a B cls d σ H sI s h) (e : PySem.W.exmOne X.K cls c = some b) : PySem.W.Looks (model X.prog X.w) h (excMatches (.ref a) c) b := by
  obtain ⟨o, _, q, z, _⟩ := w.fly.there
  refine PySem.W.exm_one w.inv.kIn (fun A Q E s' k p => wpAny_typeOf_ref (k _ _ q) ?_) e
  rw [z.1]
  exact p
/-- no clause is left: it goes on -/
theorem Down.out {Wout : WX} {Q : Flow → Shared → Prop} (T : Top1 X) (tk : Takes X Wout) (w : Down X pins a B cls d σ H sI s h) (o : Wout cls d σ H) : wpAny (model X.prog X.w) X.A (handleBy (.ref a) X.env []) Q X.xe { s with heap := h } := by
  have last : ∀ {Q : Unit → Shared → Prop}, (∀ s', X.xe (.ref a) s' → Q () s') → wpAny (model X.prog X.w) X.A (setFlight (.ref a) X.env.frame) Q X.xe { s with heap := h } := fun {Q} q => by
    rw [T.frame]
    exact HandSPX.setFlight_upZ w.fly fun h' hh u => q _ (tk _ _ ⟨a, B, sI, pins, σ, H, cls, d, rfl, w.was, w.kept, w.up.trans u, .inr (.inr (by rw [T.stk]; exact hh)), w.new, w.os, w.gens, o⟩)
  obtain ⟨_, _, _, oe, vs, t, ot, ts, e, z, dt, h1, _⟩ := id w.fly
  refine wpAny_handleBy_nil ?_
  unfold PySem.passOn
  refine wpAny_bind (wpAny_field e dt h1 ?_)
  rw [if_neg (show ¬ ((Value.ref t == Value.none) = true) from by simp)]
  have fin := last (Q := fun _ s' => wpAny (model X.prog X.w) X.A (throw (.ref a) : Sem Flow) Q X.xe s') fun s' x => wpAny_throw x
  first
    | exact wpAny_bind fin
    | exact wpAny_bind (wpAny_pure (wpAny_bind fin))
/-- a suite's end, with its name gone -/
theorem suite_end {D : Ends} {f : Flow} {n : Str} {pos : Pos} {i : Nat} {q : Addr × Obj} {s : Shared} (ok : X.Ok) (hN : X.N.Nodup) (hi : X.N[i]? = some n) (hl : X.env.kindOf n = some .local) (h : SP (X.suite a (q :: (X.pn ++ pins))) [] (gone i D) f s) :
    wpAny (model X.prog X.w) X.A (do bindName X.env n .none; unbindBehindTheSuite X.env n pos) (fun _ s' => SP X pins D f s') X.xe s := by
  cases f with
  | ret u =>
    obtain ⟨v, σ', H', I, r, p⟩ := h
    exact gone_ok (I.unsuite ok) hN hi hl fun s' J => ⟨v, _, H', J, r, p⟩
  | next =>
    obtain ⟨σ', H', I, p⟩ := h
    exact gone_ok (I.unsuite ok) hN hi hl fun s' J => ⟨_, H', J, p⟩
  | brk =>
    obtain ⟨σ', H', I, p⟩ := h
    exact gone_ok (I.unsuite ok) hN hi hl fun s' J => ⟨_, H', J, p⟩
  | cont =>
    obtain ⟨σ', H', I, p⟩ := h
    exact gone_ok (I.unsuite ok) hN hi hl fun s' J => ⟨_, H', J, p⟩
/-- the clauses, one by one -/
theorem Down.clauses {Wout : WX} {D : Ends} (T : Top1 X) (ok : X.Ok) (hN : X.N.Nodup) (tk : Takes X Wout) (w : Down X pins a B cls d σ H sI s h) : ∀ {hds : List ExceptHandler} {l : List Cl}, HdsN X hds l → wManyN X.K X.N.length Wout D l cls d σ H →
    wpAny (model X.prog X.w) X.A (handleBy (.ref a) X.env hds) (SP X pins D) X.xe { s with heap := h }
  | _, _, .nil, o => w.out T tk o
  | _, _, .cons (c := c) C r, ⟨b, e, yes, no⟩ => by
    refine wpAny_handleBy_cons (codeAny_handlers_test (w.look T C.names ((w.match e).here ?_))) fun z => by cases z
    cases b with
    | false => exact w.clauses T ok hN tk r (no rfl)
    | true =>
      refine codeAny_handlers_suite_as (w.again fun h' w' => ?_)
      obtain ⟨o, z, dt, _, I⟩ := w'.suite T
      refine store_ok (X := X.suite a ((a, o) :: (X.pn ++ pins))) (v := .ref a) I hN C.slot (.inl C.loc) rfl (fun s2 I2 => ?_) (.inr C.loc)
      exact wpAny_mono ((C.body a o cls d (X.pn ++ pins) z dt).run [] s2 _ H _ I2 (yes rfl a w.new w'.inv.len)) (fun f s3 p => suite_end ok hN C.slot C.loc p) fun _ _ z => z.elim
end
end DL
set_option maxRecDepth 100000
set_option maxHeartbeats 4000000
namespace DL
open PySem PySem.Spec PyProof.Rows L2 LamX
/-! ### x(lambda: ..): what is told of the state in which x runs -/
/-- a lambda's qualified name -/
abbrev lamQ (X : Cx) : Str := X.env.qual ++ "<lambda>"
/-- the table at P has one more entry, of the code object at c -/
def grown (H : Hp) (P : Addr) (ps more : Array Value) (c : Addr) (q : Str) : Hp := upd (upd H P (.tbl (ps ++ more))) c (CodeO c q)
section
variable {H : Hp} {P c : Addr} {ps more : Array Value} {q : Str}
end
/-- the maker of a lambda: its code object at c with its table at P, T what is told of tables -/
structure Maker (X : Cx) (T : List (Addr × Str)) (c P : Addr) : Prop where
  tab : TabB X.base X.mg c P
  code : X.env.code = .ref c
  mem : (P, lamQ X) ∈ T
  only : ∀ p ∈ T, p.1 = P → p.2 = lamQ X
/-- a lambda without parameters -/
structure Lam0 (X : Cx) (params : Arguments) (body : Expr) (scope : Scope) : Prop where
  sc : LamS X.env.scope scope
  dfl : defaultsOf params X.env = ([], [])
  bind : ∀ (q : Str) (cl : List (Str × Addr)) (pm cv ctv : Value), bindArgs (PySem.W.kla_fn "<lambda>" q params body scope cl pm cv ctv) ⟨[], []⟩ = pure []
/-- the function object of a lambda -/
abbrev lamO (X : Cx) (params : Arguments) (body : Expr) (scope : Scope) (pm : Value) (c : Addr) (ct : Value) : Obj := PySem.W.kla_obj "<lambda>" (lamQ X) params body scope (cloFrom X.env.cells scope.names []) pm c ct
/-- it is made, at f, over the code object at c -/
structure Made (X : Cx) (pins : List (Addr × Obj)) (σ : L2.St) (T : List (Addr × Str)) (params : Arguments) (body : Expr) (scope : Scope) (H H1 : Hp) (f c : Addr) (s : Shared) : Prop where
  inv : Inv X pins σ H1 s
  stay : ∀ b o, H b = some o → Stay o (H1 b)
  tabs : Tabs T H1
  fn : ∃ pm ct, s.heap.get? f = some (lamO X params body scope pm c ct)
  new : H1 f = none
  off : f ∉ frs X.stack
  code : H1 c = some (CodeO c (lamQ X))
section
variable {X : Cx} {pins : List (Addr × Obj)} {σ : L2.St} {H : Hp} {s : Shared} {T : List (Addr × Str)} {c P : Addr} {params : Arguments} {body : Expr} {scope : Scope}
end
/-- what is called with the lambda: a def of the text, of one parameter a -/
structure Callee (X : Cx) (Ng : List Str) (x a : Str) (sg : Scope) (g : Addr) (cdv : Value) (bg : List Stmt) : Prop where
  gl : Gl X x
  mg : X.mg x = some (.ref g)
  keep : PySem.W.keepIn X.K (.ref g) = true
  fn : ∃ pg dV kV doc pm ct oc an od osl, X.K.lookup g = some ⟨oc, od, .func (PySem.W.fnOf x x pg bg sg dV kV doc pm an cdv ct), osl⟩ ∧ L2.Binds X.K (PySem.W.fnOf x x pg bg sg dV kV doc pm an cdv ct) [a] []
  code : PySem.W.codeIn X.K cdv x = true
  sc : FnScope Ng [a] sg
  slot : Ng[0]? = some a
  vis : Vis sg a
  ndb : (x == ("__debug__" : Str)) = false := by decide
  nda : (a == ("__debug__" : Str)) = false := by decide
  ncd : (a == ("__classdict__" : Str)) = false := by decide
def tLam3 (T : List (Addr × Str)) (TT : (XK → Hp → VK → Prop) → Hp → VK → Prop) (t : XK → TE) : TE := fun σ H Q => Tabs T H ∧ ∀ H1, (∀ b o, H b = some o → Stay o (H1 b)) → Tabs T H1 → TT (fun E H' Q' => t E σ H' Q') H1 Q
/-- the state behind the making of a lambda: tables are taken out of what is frozen -/
def unT (F : Hp) : Hp := fun a => match F a with
  | some (.tbl _) => none
  | o => o
theorem unT_some {F : Hp} {a : Addr} {o : HO} (h : unT F a = some o) : F a = some o ∧ ∀ ps, o ≠ .tbl ps := by
  unfold unT at h
  split at h
  · cases h
  · rename_i n
    exact ⟨h, fun ps e => by rw [e] at h; exact n ps h⟩
theorem unT_of {F : Hp} {a : Addr} {o : HO} (h : F a = some o) (n : ∀ ps, o ≠ .tbl ps) : unT F a = some o := by
  unfold unT
  rw [h]
  cases o <;> first | rfl | exact absurd rfl (n _)
theorem unT_ext (F : Hp) : Ext F (unT F) := ⟨fun n h => by
  rcases h with h | ⟨o, h⟩
  · exact .inl (unT_of h fun ps e => by rw [e] at n; cases n)
  · exact .inr ⟨o, unT_of h fun ps e => by cases e⟩, fun h => unT_of h fun ps e => (by cases e), fun h => unT_of h fun ps e => (by cases e), fun h => unT_of h fun ps e => (by cases e)⟩
end DL
set_option maxRecDepth 100000
set_option maxHeartbeats 4000000
namespace DL
open PySem PySem.Spec PyProof.Rows L2 LamX
/-- what a lambda's body may see: data -/
def hideC : Cell → Cell
  | .d x => .d x
  | _ => .un
def hide (env : List Cell) : List Cell := env.map hideC
def Give (K : PySem.W.Frag) (F H : Hp) (x : DV) (Q : VK) : Prop := (∀ v, Hold K F v x → Q v H) ∧ (∀ T vs xs, x = .tup xs → H T = none → HoldAll K F vs xs → Q (.ref T) (upd H T (.tup vs))) ∧ ∀ T vs xs, x = .lst xs → H T = none → HoldAll K F vs xs → Q (.ref T) (upd H T (.lst vs))
def lamB (F H : Hp) : Base := ⟨H, F, [], [], [], []⟩
section
variable {B : Base} {K : PySem.W.Frag} {Z : ZX} {Tz : List (Addr × Str)} {F F' H H' : Hp} {n m : Nat} {σ σ' : L2.St} {env e' : List Cell}
end
def dWhy (wy : Addr → List (Str × DV) → Option DV) (nv : DV → DV) (f : (Addr → List (Str × DV) → List Cell → Prop) → DD) : DE := fun env Q => f (fun C fs _ => optP (wy C fs) fun x => Q (.d x) env) (hide env) fun d _ => Q (.d (nv d)) env
end DL
set_option maxRecDepth 100000
set_option maxHeartbeats 4000000
namespace DL
open PySem PySem.Spec PyProof.Rows L2 LamX
/-! ### repr by data; what except clauses give -/
def reprD (x : DV) : Option Str :=
  if x.ok 60 = true ∧ x.py.showable = true ∧ x.py.shown.length ≤ sizeLine then some x.py.shown else match x with
  | .dk kvs => if kvs.all (fun kv => flatD kv.2) = true ∧ (PyData.dict (kvPy kvs)).showable = true ∧ (PyData.dict (kvPy kvs)).depth ≤ 60 ∧ (PyData.dict (kvPy kvs)).shown.length ≤ sizeLine then some (PyData.dict (kvPy kvs)).shown else none
  | _ => none
abbrev WY := Addr → List (Str × DV) → Option DV
/-- an expression in an except suite, i is the slot of the error -/
structure PH (X : Cx) (i : Nat) (e : Expr) (g : WY) : Prop where
  run : ∀ (a : Addr) (oe : Obj) (cls : Value) (d : Option Addr) (pn : List (Addr × Obj)), Zc cls d oe → (∃ vs, oe.data = .fields vs) →
    PE (X.suite a ((a, oe) :: pn)) e (fun σ H Q => ∃ F C fs dd x, (cls = .ref C ∧ d = some dd ∧ Same F H ∧ ExcAt X.K F H dd fs ∧ σ[i]? = some (some (.ref a)) ∧ g C fs = some x) ∧ ∀ v, Hold X.K F v x → Q v H)
section
variable {X : Cx} {i : Nat} {e : Expr} {g : WY} {pos : Pos}
end
end DL
set_option maxRecDepth 100000
set_option maxHeartbeats 4000000
namespace DL
open PySem PySem.Spec PyProof.Rows L2 LamX
structure PHA (X : Cx) (i : Nat) (es : List Expr) (g : Addr → List (Str × DV) → Option (List DV)) : Prop where
  run : ∀ (a : Addr) (oe : Obj) (cls : Value) (d : Option Addr) (pn : List (Addr × Obj)), Zc cls d oe → (∃ vs, oe.data = .fields vs) →
    PA (X.suite a ((a, oe) :: pn)) es (fun σ H Q => ∃ F C fs dd x, (cls = .ref C ∧ d = some dd ∧ Same F H ∧ ExcAt X.K F H dd fs ∧ σ[i]? = some (some (.ref a)) ∧ g C fs = some x) ∧ ∀ vs, HoldAll X.K F vs x → Q vs H)
/-- what a clause returns -/
structure PHR (X : Cx) (i : Nat) (e : Expr) (g : WY) : Prop where
  run : ∀ (a : Addr) (oe : Obj) (cls : Value) (d : Option Addr) (pn : List (Addr × Obj)), Zc cls d oe → (∃ vs, oe.data = .fields vs) →
    PE (X.suite a ((a, oe) :: pn)) e (fun σ H Q => ∃ F C fs dd x, (cls = .ref C ∧ d = some dd ∧ Same F H ∧ ExcAt X.K F H dd fs ∧ σ[i]? = some (some (.ref a)) ∧ g C fs = some x) ∧ Give X.K F H x Q)
section
variable {X : Cx} {i : Nat} {e : Expr} {es : List Expr} {g : WY} {gs : Addr → List (Str × DV) → Option (List DV)} {pos : Pos}
end
inductive HC (X : Cx) (i : Nat) (n : Str) : List ExceptHandler → List (Addr × WY) → Prop
  | nil : HC X i n [] []
  | cons {x : Str} {C : Addr} {e : Expr} {g : WY} {np rp pos' : Pos} {hds : List ExceptHandler} {l : List (Addr × WY)} (hc : Names X x (.ref C)) (h : PHR X i e g) (r : HC X i n hds l) :
      HC X i n (.ExceptHandler (some (.Name x np)) (some n) [.Return (some e) rp] pos' :: hds) ((C, g) :: l)
def wyL (K : PySem.W.Frag) : List (Addr × WY) → WY
  | [] => fun _ _ => none
  | (Ci, g) :: r => fun C fs => match PySem.W.exmOne K (.ref C) (.ref Ci) with
    | some true => g C fs
    | some false => wyL K r C fs
    | none => none
def wishW (K : PySem.W.Frag) (wy : WY) (Q : VK) : XK := fun cls d H => ∃ F C fs dd x, (cls = .ref C ∧ d = some dd ∧ Same F H ∧ ExcAt K F H dd fs ∧ wy C fs = some x) ∧ Give K F H x Q
def TTw (K : PySem.W.Frag) (wy : WY) (nrm : VK → VK) : (XK → Hp → VK → Prop) → Hp → VK → Prop := fun tl H Q => tl (wishW K wy Q) H (nrm Q)
end DL
set_option maxRecDepth 100000
set_option maxHeartbeats 4000000
namespace DL
open PySem PySem.Spec PyProof.Rows L2 LamX
/-- what is wanted of the law's def, at the caller alone -/
def FnAt (P : Program) (w : World) (K : PySem.W.Frag) (mg : Str → Option Value) (base : Heap) (CX : CXT) (k : Nat) (f : Addr) (fd : FuncData) (ps : List Str) (sp : Sp) : Prop :=
  ∀ (s : Shared) (H : Hp) (args : Args) (us : List Value) (vs : List V) (Q : VK) (E : XK), Room k callerA → Env0 P w K mg base callerA [] s H → BindsTo s fd args (ps.zip us) → Vals vs us → sp vs H Q E →
    codeAny (model P w) callerA (.call (.ref f) args) (CR CX [] P w H s Q E) s
abbrev oLst (vs : List Value) : Obj := { cls := .type "list", data := .seq vs.toArray }
/-- what is looked after at the start: tables of code, and the script (u: none where the program holds it) -/
def seen (T : List Addr) (a : Addr) (u : Option HO) : Hp := fun b => if b ∈ T then some (.tbl #[]) else if b = a then u else none
/-- the state at the law's call -/
structure Entry (K : PySem.W.Frag) (mg : Str → Option Value) (h : Heap) (T : List (Addr × Addr)) (a : Addr) (vs : List Value) (ns : List Int) : Prop where
  kin : K.In h
  glob : h.Ns mainGlobals mg
  blt : ∃ mb, h.Ns builtinsNs mb ∧ ∀ x : Str, x ≠ "__name__" → mb x = bootBuiltins x
  lim : h.NoLimit
  bm : ∃ (m : Addr) (o : Obj), mg "__builtins__" = some (.ref m) ∧ m ≠ builtinsNs ∧ h.get? m = some o ∧ o.cls = .type "module" ∧ o.dict = some builtinsNs ∧ o.data = .plain
  tab : ∀ p ∈ T, h.get? p.2 = some oTab
  tabK : ∀ p ∈ T, K.lookup p.2 = none
  code : ∀ p ∈ T, PySem.W.CodeHd h p.1 p.2
  scr : h.get? a = some (oLst vs)
  its : IntsAre vs ns
  short : ns.length ≤ sizeLine
/-- how the script is looked after -/
inductive Watch (K : PySem.W.Frag) (a : Addr) (vs : List Value) (ns : List Int) : Option HO → Prop
  | held {o : Obj} : K.lookup a = some o → Watch K a vs ns none
  | frz : K.lookup a = none → Watch K a vs ns (some (.frz (oLst vs) (.lst (ns.map V.int))))
theorem Watch.ex (K : PySem.W.Frag) (a : Addr) (vs : List Value) (ns : List Int) : ∃ u, Watch K a vs ns u :=
  match e : K.lookup a with
  | some _ => ⟨_, .held e⟩
  | none => ⟨_, .frz e⟩
section
variable {P : Program} {w : World} {K : PySem.W.Frag} {mg : Str → Option Value} {h : Heap} {T : List (Addr × Addr)} {a b : Addr} {vs : List Value} {ns : List Int} {u : Option HO}
abbrev seenT (T : List (Addr × Addr)) (a : Addr) (u : Option HO) : Hp := seen (T.map (·.2)) a u
theorem seen_mem {S : List Addr} (hb : b ∈ S) : seen S a u b = some (.tbl #[]) := if_pos hb
theorem seen_a {S : List Addr} (ha : a ∉ S) : seen S a u a = u := (if_neg ha).trans (if_pos rfl)
theorem seen_else {S : List Addr} (hb : b ∉ S) (hn : b ≠ a) : seen S a u b = none := (if_neg hb).trans (if_neg hn)
theorem Entry.tabOf (e : Entry K mg h T a vs ns) (hb : b ∈ T.map (·.2)) : ∃ p ∈ T, p.2 = b ∧ h.get? b = some oTab := by
  obtain ⟨p, hp, rfl⟩ := List.mem_map.mp hb
  exact ⟨p, hp, rfl, e.tab p hp⟩
/-- an object that is no list and no empty table is not looked after -/
theorem Entry.apart (e : Entry K mg h T a vs ns) {o : Obj} (hb : h.get? b = some o) (n1 : ∀ its n, o.data ≠ .seq its n) (n2 : o.data ≠ .fields #[]) : seenT T a u b = none := by
  refine seen_else (fun hm => ?_) (fun hm => ?_)
  · obtain ⟨_, _, _, ht⟩ := e.tabOf hm
    exact n2 (congrArg Obj.data (Option.some.inj (hb.symm.trans ht)))
  · subst hm
    exact n1 _ _ (congrArg Obj.data (Option.some.inj (hb.symm.trans e.scr)))
theorem Entry.aT (e : Entry K mg h T a vs ns) : a ∉ T.map (·.2) := fun hm => by
  obtain ⟨_, _, _, ht⟩ := e.tabOf hm
  have z := congrArg Obj.data (Option.some.inj (e.scr.symm.trans ht))
  cases z
theorem Entry.hok (e : Entry K mg h T a vs ns) (W : Watch K a vs ns u) : HOk P w (seenT T a u) h := fun b o q => by
  unfold seenT seen at q
  split at q
  case isTrue hb =>
    cases q
    obtain ⟨_, _, _, ht⟩ := e.tabOf hb
    exact ht
  case isFalse hb =>
    split at q
    case isFalse => cases q
    case isTrue ha =>
      subst ha
      cases W with
      | held => cases q
      | frz hk =>
        cases q
        refine ⟨e.scr, ?_, vs, _, vals_ints e.its, e.scr⟩
        rw [List.length_map]
        exact e.short
/-- what the program holds is not looked after -/
theorem Entry.kfree (e : Entry K mg h T a vs ns) (W : Watch K a vs ns u) {o : Obj} (hk : K.lookup b = some o) : seenT T a u b = none := by
  have hb : b ∉ T.map (·.2) := fun hm => by
    obtain ⟨p, hp, rfl, _⟩ := e.tabOf hm
    rw [e.tabK p hp] at hk
    cases hk
  by_cases hn : b = a
  · subst hn
    cases W with
    | held => exact seen_a hb
    | frz h0 =>
      rw [h0] at hk
      cases hk
  · exact seen_else hb hn
theorem Entry.dict (e : Entry K mg h T a vs ns) {m : Str → Option Value} (hn : h.Ns b m) : (hidT h (seenT T a u)).Ns b m := by
  obtain ⟨o, es, ep, q, d, r⟩ := hn
  exact ⟨o, es, ep, hidT_get q (e.apart q (fun _ _ z => by rw [d] at z; cases z) (fun z => by rw [d] at z; cases z)), d, r⟩
theorem Entry.kinB (e : Entry K mg h T a vs ns) (W : Watch K a vs ns u) : K.In (hidT h (seenT T a u)) := fun b o q => hidT_get (e.kin b o q) (e.kfree W q)
theorem Entry.modB (e : Entry K mg h T a vs ns) (W : Watch K a vs ns u) : L2.Mod K mg (hidT h (seenT T a u)) where
  kin := e.kinB W
  glob := e.dict e.glob
  blt := e.blt.imp fun _ q => ⟨e.dict q.1, q.2⟩
  nolimit := by
    obtain ⟨m, q, r⟩ := e.lim
    exact ⟨m, e.dict q, r⟩
theorem Entry.tabB (e : Entry K mg h T a vs ns) (W : Watch K a vs ns u) {p : Addr × Addr} (hp : p ∈ T) : TabB (hidT h (seenT T a u)) mg p.1 p.2 where
  code := by
    obtain ⟨o, fs, f, tf, fl, tg, i, x, tx, q, c, d, g, r⟩ := e.code p hp
    refine ⟨o, fs, f, tf, fl, tg, i, x, tx, hidT_get q (e.apart q (fun _ _ z => ?_) (fun z => ?_)), c, d, g, r⟩
    · rw [d] at z
      cases z
    · rw [d] at z
      cases z
      cases g
  bm := by
    obtain ⟨m, o, q1, q2, q3, q4, q5, q6⟩ := e.bm
    refine ⟨m, o, q1, q2, fun z => ?_, fun z => ?_, hidT_get q3 (e.apart q3 (fun _ _ z => ?_) (fun z => ?_)), q4, q5, q6⟩
    · obtain ⟨o2, es, ep, g1, g2, _⟩ := e.glob
      subst z
      rw [Option.some.inj (q3.symm.trans g1), g2] at q6
      cases q6
    · rw [z, e.tab p hp] at q3
      cases q3
      cases q6
    · rw [q6] at z
      cases z
    · rw [q6] at z
      cases z
  gP := fun z => by
    obtain ⟨o2, es, ep, g1, g2, _⟩ := e.glob
    rw [z, e.tab p hp] at g1
    cases g1
    cases g2
theorem Entry.env (e : Entry K mg h T a vs ns) (W : Watch K a vs ns u) {s : Shared} (hs : s.heap = h) (hg : s.gens = #[]) : Env0 P w K mg (hidT h (seenT T a u)) callerA [] s (seenT T a u) where
  frames := rfl
  mod := e.modB W
  bs := fun b o q => by
    rw [hs]
    exact of_hidT q
  bsz := by rw [hidT_size, hs]; exact Nat.le_refl _
  funs := trivial
  frf := fun b hb => by cases hb
  hok := by rw [hs]; exact e.hok W
  bare := .of_eq hg
theorem Entry.script (e : Entry K mg h T a vs ns) (W : Watch K a vs ns u) : SqL K (seenT T a u) a (ns.map V.int) := by
  cases W with
  | held hk =>
    have q := Option.some.inj ((e.kin _ _ hk).symm.trans e.scr)
    subst q
    have hl : vs.length ≤ sizeLine := by rw [e.its.length]; exact e.short
    exact .inr ⟨_, vs.toArray, _, hk, rfl, rfl, rfl, by rw [List.size_toArray]; exact hl, vals_ints e.its⟩
  | frz hk => exact .inl (.inr ⟨_, seen_a e.aT⟩)
/-- what stood stands behind the call; a table may have grown -/
theorem Entry.old (e : Entry K mg h T a vs ns) (W : Watch K a vs ns u) {H' : Hp} {h' : Heap} (U : Un (frs []) [] (seenT T a u) H' h h') (hok : HOk P w H' h') : OldK h h' := by
  have grown : ∀ {p}, p ∈ T → ∃ more : Array Value, h'.get? p.2 = some (PySem.W.tabObj (#[] ++ more)) := fun {p} hp => by
    obtain ⟨more, q⟩ := U.tbls p.2 #[] (seen_mem (List.mem_map_of_mem hp))
    exact ⟨more, hok _ _ q⟩
  have stands : ∀ {b o}, b ∉ T.map (·.2) → h.get? b = some o → h'.get? b = some o := fun {b o} nb q => by
    cases z : seenT T a u b with
    | none => exact U.keep b o q z (fun y => by cases y) (fun y => by cases y)
    | some x =>
      have ab : b = a := Classical.byContradiction fun n => by
        have y : (none : Option HO) = some x := (seen_else nb n).symm.trans z
        cases y
      subst ab
      rw [show seenT T b u b = u from seen_a nb] at z
      subst z
      cases W with
      | frz hk =>
        rw [Option.some.inj (q.symm.trans e.scr)]
        exact (hok b _ (U.frzs b _ _ (seen_a nb))).1
  constructor
  · intro b o q
    by_cases hb : b ∈ T.map (·.2)
    · obtain ⟨p, hp, rfl, ht⟩ := e.tabOf hb
      obtain ⟨more, hm⟩ := grown hp
      rw [Option.some.inj (q.symm.trans ht)]
      exact .inr (.inl ⟨((e.code p hp).tab ht).isCodeTable, rfl, #[], more, rfl, hm⟩)
    · exact .inl (stands hb q)
  · intro b o q
    by_cases hb : b ∈ T.map (·.2)
    · obtain ⟨p, hp, rfl, _⟩ := e.tabOf hb
      obtain ⟨more, hm⟩ := grown hp
      exact ⟨_, hm⟩
    · exact ⟨_, stands hb q⟩
/-- what the law promises, of its def's call -/
theorem Entry.run (e : Entry K mg h T a vs ns) {CX : CXT} {k : Nat} {fa : Addr} {fd : FuncData} {x : Str} {sp : Sp} {s : Shared} (hs : s.heap = h) (hg : s.gens = #[]) (hr : Room k callerA)
    (F : ∀ base : Heap, K.In base → base.Ns mainGlobals mg → (∀ p ∈ T, TabB base mg p.1 p.2) → FnAt P w K mg base CX k fa fd [x] sp) (hb : BindsTo s fd ⟨[.ref a], []⟩ [(x, .ref a)])
    (hsp : ∀ H : Hp, (∀ p ∈ T, H p.2 = some (.tbl #[])) → SqL K H a (ns.map V.int) → sp [.ref a] H (fun v _ => v = .bl true) fun _ _ _ => False)
    (hCX : ∀ H y s', CX [] H s (fun _ _ _ => False) y s' → False) :
    codeAny (model P w) callerA (.call (.ref fa) ⟨[.ref a], []⟩) (fun r s' => r = .ok (.ret (.bool true)) ∧ OldK h s'.heap ∧ s'.os = s.os ∧ AllBare s'.gens) s := by
  obtain ⟨u, W⟩ := Watch.ex K a vs ns
  have go := F _ (e.kinB W) (e.modB W).glob (fun p hp => e.tabB W hp) s _ ⟨[.ref a], []⟩ [.ref a] [.ref a] _ _ hr (e.env (P := P) (w := w) W hs hg) hb (.cons rfl .nil) (hsp _ (fun p hp => seen_mem (List.mem_map_of_mem hp)) (e.script W))
  refine codeAny_mono go fun r s' q => ?_
  match r, q with
  | .error y, q => exact (hCX _ y s' q).elim
  | .ok (.ret v), q =>
    obtain ⟨x, H', q1, q2, q3, q4, q5, q6⟩ := q
    obtain rfl : x = .bl true := q6
    obtain rfl : v = .bool true := q5
    rw [hs] at q3
    exact ⟨rfl, e.old W q3 q4, q1, q2⟩
end
/-- what is to be shown over the head's heap h -/
def LawAtA (l : PySem.W.OpenLaw) (w : World) (K : PySem.W.Frag) (CX : CXT) (k n : Nat) (x : Str) (mg : Str → Option Value) (fa : Addr) (h : Heap) : Prop :=
  ∃ (fd : FuncData) (T : List (Addr × Addr)) (sp : Sp), ((∀ p ∈ T, h.get? p.2 = some oTab) ∧ (∀ p ∈ T, K.lookup p.2 = none) ∧ (∀ p ∈ T, PySem.W.CodeHd h p.1 p.2)) ∧ (∀ (s : Shared) (v : Value), BindsTo s fd ⟨[v], []⟩ [(x, v)]) ∧
    (∀ (H : Hp) (a : Addr) (ns : List Int), ns.length ≤ n → (∀ z ∈ ns, Builtin.Int.intBits z ≤ 1048576) → (∀ p ∈ T, H p.2 = some (.tbl #[])) → SqL K H a (ns.map V.int) → sp [.ref a] H (fun v _ => v = .bl true) fun _ _ _ => False) ∧
    ∀ base : Heap, K.In base → base.Ns mainGlobals mg → (∀ p ∈ T, TabB base mg p.1 p.2) → FnAt l.prog w K mg base CX k fa fd [x] sp
end DL
set_option maxRecDepth 100000
set_option maxHeartbeats 4000000
namespace DL
open PySem PySem.Spec PyProof.Rows L2 LamX
section
variable {P : Program} {w : World} {K : PySem.W.Frag} {mg : Str → Option Value} {base : Heap}
/-- the law's def by its derivation and its data -/
theorem okAt {x qual : Str} {st : Stmt} {f ca : Addr} {N ps : List Str} {k c c' : Nat} {con : Con} {T : List (Addr × Str)} {wd : (Addr → List (Str × DV) → List Cell → Prop) → WS} {kV doc pm ct oc : Value} {an od : Option Addr} {osl : Array (Option Value)}
    (lk : K.lookup f = some ⟨oc, od, .func (PySem.W.fnOf x qual (defArgs st) (defBody st) (defScope st) .none kV doc pm an (.ref ca) ct), osl⟩) (hcd : PySem.W.codeIn K (.ref ca) qual = true) (S : FnScope N ps (defScope st)) (hlen : ∀ cs P X, con cs P X → cs.length = ps.length) (hc : c ≤ c')
    (hbody : ∀ (s : Shared) (H : Hp) (E : XK) (G : Addr → List (Str × DV) → List Cell → Prop) (M : Nat) (hM : M ≤ LIM), Room k (callerA.deeper (envOfC qual (defScope st) s.heap.objs.size f (.ref ca))) →
      PSSd (cxOf (L2.CX P w) P w K mg base N qual (defScope st) f (.ref ca) callerA [] s H E) ⟨E, G, T, M, hM, []⟩ (defBody st) c (wd G))
    (hdata : ∀ cs P X, con cs P X → runD N.length (wd fun C fs e => X C fs (borsAt e (ownIx 0 cs))) cs P) :
    FnAt P w K mg base (L2.CX P w) (k + 1) f (PySem.W.fnOf x qual (defArgs st) (defBody st) (defScope st) .none kV doc pm an (.ref ca) ct) ps (SpD K T c' con) := by
  intro s H args us vs Q E hr e0 hb r ⟨F0, n, cs, M, hn, s0, ht, hp, nd, q⟩
  have hl0 : vs.length = ps.length := by rw [hp.len]; exact hlen _ _ _ q
  refine run_ofS (k := k) lk hcd S hr e0 hb r hl0 fun hr2 => ?_
  have hl : vs.length ≤ N.length := by
    have e1 := hlen _ _ _ q
    have e2 := congrArg List.length S.pre
    rw [List.length_take] at e2
    rw [hp.len, e1]
    omega
  have hd := hdata cs _ _ q
  have hb := hbody s H E (fun C fs e => ∀ d m H' F', n ≤ m → m ≤ M → PostX K T F0 H (borA vs cs) (borF H vs cs) m (borsAt e (ownIx 0 cs)) fs d H' F' → E (.ref C) (some d) H') M hn.2 hr2
  refine ⟨_, hb.run, ?_⟩
  refine runD_ok hb (n := n) (by show _ ≤ M; omega) s0 ht hp nd hl (runD_mono hb.mono (fun r o z v H' F' p => z v H' F' (p.mono_m (by omega))) hd) (fun p hp => nomatch hp) ?_
  exact fun C fs e g d m H' F' h1 h2 px => g d m H' F' h1 h2 px
end
/-- what a law promises -/
def conLaw : Con := fun cs P _ => ∃ ns : List Int, (cs = [.d (.klst (ns.map DV.int))] ∧ ns.length ≤ 63) ∧ P (.d (.bl true)) []
theorem holds_ints {K : PySem.W.Frag} {F : Hp} : ∀ ns : List Int, HoldAll K F (ns.map V.int) (ns.map DV.int)
  | [] => .nil
  | n :: ns => .cons (.int n) (holds_ints ns)
theorem law_sp {K : PySem.W.Frag} {T : List (Addr × Str)} {c : Nat} (hc : c ≤ LIM) (H : Hp) (a : Addr) (ns : List Int) (hl : ns.length ≤ 63) (hT : ∀ p ∈ T, H p.1 = some (.tbl #[])) (hS : SqL K H a (ns.map V.int)) : SpD K T c conLaw [.ref a] H (fun v _ => v = .bl true) fun _ _ _ => False := by
  refine ⟨unT H, 0, [.d (.klst (ns.map DV.int))], c, ⟨by omega, hc⟩, fun b o h => (unT_some h).1, fun p hp => TabS.nil (hT p hp), ⟨.klst (sqL_mono (unT_ext H) hS) (holds_ints ns), trivial⟩, List.nodup_nil, ns, ⟨rfl, hl⟩, fun v H' F' pd => ?_⟩
  have h := pd.res
  cases h
  rfl
end DL
set_option maxRecDepth 100000
set_option maxHeartbeats 4000000
namespace DL
open PySem PySem.Spec PyProof.Rows L2 LamX
end DL
set_option maxRecDepth 100000
set_option maxHeartbeats 4000000
namespace DL
open PySem PySem.Spec PyProof.Rows L2 LamX
/-! ### data with a short text -/
structure Shw (k m : Nat) (x : DV) : Prop where
  ok : x.ok k = true
  sh : x.py.showable = true
  len : x.py.shown.length ≤ m
  st : PyData.strOk x.py.shown = true
theorem Shw.mono {k m n : Nat} {x : DV} (h : Shw k m x) (l : m ≤ n) : Shw k n x := ⟨h.ok, h.sh, Nat.le_trans h.len l, h.st⟩
theorem strOk_app {a b : Str} (ha : PyData.strOk a = true) (hb : PyData.strOk b = true) : PyData.strOk (a ++ b) = true := by
  unfold PyData.strOk at *
  rw [Str.cps_append, Array.all_append, ha, hb]
  rfl
theorem strOk_lit (s : String) : PyData.strOk (Str.ofString s) = true := by
  unfold PyData.strOk
  rw [Str.ofString_eq_toList]
  show (List.map Char.toNat s.toList).toArray.all _ = true
  rw [List.all_toArray, List.all_eq_true]
  intro n hn
  obtain ⟨c, _, rfl⟩ := List.mem_map.mp hn
  refine decide_eq_true ?_
  have h := c.valid
  simp only [UInt32.isValidChar, Nat.isValidChar] at h
  show c.val.toNat < _
  omega
theorem strOk_join : ∀ ts : List Str, (∀ t ∈ ts, PyData.strOk t = true) → PyData.strOk (Str.join ", " ts) = true
  | [], _ => by decide +kernel
  | [x], h => h x List.mem_cons_self
  | x :: y :: r, h => strOk_app (strOk_app (h x List.mem_cons_self) (strOk_lit _)) (strOk_join (y :: r) fun t ht => h t (List.mem_cons_of_mem _ ht))
theorem ok_str {k : Nat} {s : Str} (h : PyData.strOk s = true) : (DV.str s).ok k = true := by cases k <;> exact h
/-- a written text, without signs that are escaped -/
theorem Shw.str {k m : Nat} {s : Str} (h : PyData.strOk s = true ∧ (PyData.str s).shown.length ≤ m ∧ PyData.strOk (PyData.str s).shown = true) : Shw k m (.str s) :=
  ⟨ok_str h.1, by rw [DV.py]; rfl, by rw [DV.py]; exact h.2.1, by rw [DV.py]; exact h.2.2⟩
theorem Shw.non {k : Nat} : Shw k 10 .non := ⟨by cases k <;> rfl, by rw [DV.py]; rfl, by rw [DV.py, PyData.shown_none]; decide, by rw [DV.py, PyData.shown_none]; exact strOk_lit _⟩
theorem Shw.bl {k : Nat} {b : Bool} : Shw k 10 (.bl b) := ⟨by cases k <;> rfl, by rw [DV.py]; rfl, by rw [DV.py, PyData.shown_bool]; cases b <;> decide, by rw [DV.py, PyData.shown_bool]; cases b <;> exact strOk_lit _⟩
theorem Shw.int {k : Nat} {i : Int} (h : i.natAbs.log2 < 1920) : Shw k 2000 (.int i) := by
  refine ⟨by cases k <;> rfl, ?_, ?_, ?_⟩
  · rw [DV.py, PyData.showable]
    exact decide_eq_true h
  · rw [DV.py, PyData.shown_int]
    exact Nat.le_trans (int_text_len_1921 h) (by decide)
  · rw [DV.py, PyData.shown_int]
    exact strOk_lit _
theorem join_le (m : Nat) : ∀ ts : List Str, (∀ t ∈ ts, t.length ≤ m) → (Str.join ", " ts).length ≤ ts.length * (m + 2)
  | [], _ => by
    show (0 : Nat) ≤ _
    omega
  | [x], h => by
    have := h x List.mem_cons_self
    show x.length ≤ 1 * (m + 2)
    omega
  | x :: y :: r, h => by
    have h1 := h x List.mem_cons_self
    have h2 := join_le m (y :: r) fun t ht => h t (List.mem_cons_of_mem _ ht)
    show (x ++ ", " ++ Str.join ", " (y :: r)).length ≤ _
    rw [Str.length_append, Str.length_append, show (Str.length (", " : Str)) = 2 from rfl, List.length_cons, Nat.add_mul]
    omega
theorem shownAll_of {k m : Nat} : ∀ {xs : List DV}, (∀ d ∈ xs, Shw k m d) → PyData.showableAll (pyAll xs) = true ∧ (∀ t ∈ PyData.shownAll (pyAll xs), t.length ≤ m) ∧ (PyData.shownAll (pyAll xs)).length = xs.length ∧ ∀ t ∈ PyData.shownAll (pyAll xs), PyData.strOk t = true
  | [], _ => by
    rw [pyAll]
    refine ⟨rfl, fun t ht => ?_, rfl, fun t ht => ?_⟩ <;> cases ht
  | x :: xs, h => by
    obtain ⟨a, b, c, e⟩ := shownAll_of fun d hd => h d (List.mem_cons_of_mem _ hd)
    have hx := h x List.mem_cons_self
    rw [pyAll, PyData.shownAll_cons]
    refine ⟨by rw [PyData.showableAll, hx.sh, a]; rfl, fun t ht => ?_, by rw [List.length_cons, List.length_cons, c], fun t ht => ?_⟩
    · rcases List.mem_cons.mp ht with rfl | ht
      · exact hx.len
      · exact b t ht
    · rcases List.mem_cons.mp ht with rfl | ht
      · exact hx.st
      · exact e t ht
theorem shw_tup {k m : Nat} {xs : List DV} (h : ∀ d ∈ xs, Shw k m d) : (PyData.tuple (pyAll xs)).showable = true ∧ (PyData.tuple (pyAll xs)).shown.length ≤ xs.length * (m + 2) + 3 ∧ PyData.strOk (PyData.tuple (pyAll xs)).shown = true := by
  obtain ⟨a, b, c, d⟩ := shownAll_of h
  refine ⟨by rw [PyData.showable]; exact a, ?_, by rw [PyData.shown_tuple]; exact strOk_app (strOk_app (strOk_lit _) (strOk_join _ d)) (strOk_lit _)⟩
  have j := join_le m _ b
  rw [PyData.shown_tuple, Str.length_append, Str.length_append, show (Str.length ("(" : Str)) = 1 from rfl]
  rw [c] at j
  have e : ∀ s : Bool, (Str.length ((if s then ",)" else ")" : String) : Str)) ≤ 2 := by decide
  have e2 := e ((pyAll xs).length == 1)
  omega
theorem shw_lst {k m : Nat} {xs : List DV} (h : ∀ d ∈ xs, Shw k m d) : (PyData.list (pyAll xs)).showable = true ∧ (PyData.list (pyAll xs)).shown.length ≤ xs.length * (m + 2) + 3 ∧ PyData.strOk (PyData.list (pyAll xs)).shown = true := by
  obtain ⟨a, b, c, d⟩ := shownAll_of h
  refine ⟨by rw [PyData.showable]; exact a, ?_, by rw [PyData.shown_list]; exact strOk_app (strOk_app (strOk_lit _) (strOk_join _ d)) (strOk_lit _)⟩
  have j := join_le m _ b
  rw [PyData.shown_list, Str.length_append, Str.length_append, show (Str.length ("[" : Str)) = 1 from rfl, show (Str.length ("]" : Str)) = 1 from rfl]
  rw [c] at j
  omega
theorem Shw.tup {k m : Nat} {xs : List DV} (h : ∀ d ∈ xs, Shw k m d) : Shw (k + 1) (xs.length * (m + 2) + 3) (.tup xs) :=
  ⟨List.all_eq_true.mpr fun d hd => (h d hd).ok, by rw [DV.py]; exact (shw_tup h).1, by rw [DV.py]; exact (shw_tup h).2.1, by rw [DV.py]; exact (shw_tup h).2.2⟩
theorem Shw.ktup {k m : Nat} {xs : List DV} (h : ∀ d ∈ xs, Shw k m d) : Shw (k + 1) (xs.length * (m + 2) + 3) (.ktup xs) :=
  ⟨List.all_eq_true.mpr fun d hd => (h d hd).ok, by rw [DV.py]; exact (shw_tup h).1, by rw [DV.py]; exact (shw_tup h).2.1, by rw [DV.py]; exact (shw_tup h).2.2⟩
theorem Shw.lst {k m : Nat} {xs : List DV} (h : ∀ d ∈ xs, Shw k m d) : Shw (k + 1) (xs.length * (m + 2) + 3) (.lst xs) :=
  ⟨List.all_eq_true.mpr fun d hd => (h d hd).ok, by rw [DV.py]; exact (shw_lst h).1, by rw [DV.py]; exact (shw_lst h).2.1, by rw [DV.py]; exact (shw_lst h).2.2⟩
/-- more may be spent -/
theorem PSd.le {X : Cx} {Z : ZX} {st : Stmt} {c c' : Nat} {w : WS} (h : PSd X Z st c w) (hc : c ≤ c') : PSd X Z st c' w :=
  ⟨h.mono, PS_imp h.run fun D σ H ⟨B, F, n, env, hn, S, q⟩ => ⟨B, F, n, env, by omega, S, h.mono _ _ _ (endD_le (Ext.refl _) (by omega)) q⟩⟩
end DL
set_option maxRecDepth 100000
set_option maxHeartbeats 4000000
namespace DL
open PySem PySem.Spec PyProof.Rows L2 LamX
/-! ### what a head shows, by Bools over the known part -/
theorem excB_ok {K : PySem.W.Frag} {C : Addr} (h : excB K C = true) : ∃ nm q N bs bm sn sub ab col dd k0 k1 k2 k3 k5, K.lookup C = some (excClassObj nm q C N bs bm true sn sub ab col dd k0 k1 k2 k3 k5 "ValueError.__new__") ∧ PySem.HandSPX.refsVE bm = true := by
  unfold excB at h
  split at h
  case h_2 => cases h
  case h_1 t dd cd sl lk =>
    split at h
    case h_2 => cases h
    case h_1 D bm k0 k1 k2 k3 n k5 em es =>
      obtain ⟨h1, h2⟩ := and_t h
      obtain ⟨a1, h1⟩ := and_t h1
      obtain ⟨a2, a3⟩ := and_t h1
      obtain ⟨a4, h2⟩ := and_t h2
      obtain ⟨a5, a6⟩ := and_t h2
      have a1 := of_decide_eq_true a1
      have a2 := of_decide_eq_true a2
      have a3 := of_decide_eq_true a3
      have a4' : cd.hasDel = false := by
        cases e : cd.hasDel with
        | false => rfl
        | true =>
          rw [e] at a4
          cases a4
      clear a4
      have esl : sl = #[k0, k1, k2, k3, some (.builtin n), k5] := Array.ext' es
      obtain ⟨c1, c2, c3, c4, c5, c6, c7, c8, c9, c10, c11⟩ := cd
      dsimp only at em a4' a5
      subst a1 a2 a3 em a4' a5 esl
      exact ⟨_, _, _, _, bm, _, _, _, _, _, _, _, _, _, _, lk, a6⟩
theorem oexB_ok {K : PySem.W.Frag} {C : Addr} (h : oexB K C = true) : OexC K C := by
  obtain ⟨a, h⟩ := and_t h
  obtain ⟨b, h⟩ := and_t h
  obtain ⟨c, h⟩ := and_t h
  obtain ⟨d, e⟩ := and_t h
  exact ⟨excB_ok a, He.eqO_ok b, of_decide_eq_true c, of_decide_eq_true d, e⟩
theorem errB_ok {K : PySem.W.Frag} {C fI : Addr} {ns : List Str} (h : errB K C fI ns = true) : ErrC K C fI ns := by
  obtain ⟨a, h⟩ := and_t h
  obtain ⟨b, h⟩ := and_t h
  obtain ⟨c, d⟩ := and_t h
  exact ⟨oexB_ok a, He.eqO_ok b, of_decide_eq_true c, fun f hf => He.eqO_ok (List.all_eq_true.mp d f hf)⟩
theorem baseB_ok {K : PySem.W.Frag} {D : Addr} (h : baseB K D = true) : BaseI K D := by
  obtain ⟨a, h⟩ := and_t h
  obtain ⟨b, c⟩ := and_t h
  refine ⟨a, He.eqO_ok b, ?_⟩
  split at c
  case h_1 x e =>
    rw [e, of_decide_eq_true c]
  case h_2 => cases c
/-- a def without defaults, as the layer has it -/
theorem fun_of {K : PySem.W.Frag} {x qual : Str} {st : Stmt} {f : Addr} {fd : FuncData} (F : FunD K x qual (defArgs st) (defBody st) (defScope st) [] [] f fd) : Fun K x qual st f fd := by
  obtain ⟨⟨oc, od, dV, kV, doc, pm, an, cdv, ct, osl, e1, e2, e3, e4, e5⟩, kp⟩ := F
  rcases e4 with ⟨_, rfl⟩ | ⟨n, _⟩
  · exact ⟨⟨oc, od, kV, doc, pm, an, cdv, ct, osl, e1, e2, e3⟩, kp⟩
  · exact absurd rfl n
/-! ### written data -/
/-- a value that is no object, or an object -/
def vOf : Value → V
  | .bool b => .bl b
  | .int i _ => .int i
  | .str x _ => .str x
  | .ref a => .ref a
  | _ => .non
theorem datB_ok {K : PySem.W.Frag} {F : Hp} : ∀ (k : Nat) (u : Value) (d : DV), datB K k u d = true → RelV (vOf u) u ∧ Hold K F (vOf u) d := by
  intro k
  induction k with
  | zero =>
    intro u d h
    cases u <;> cases d <;> first | (cases h; done) | skip
    · exact ⟨rfl, .non⟩
    · rw [eq_of_beq (show (_ == _) = true from h)]
      exact ⟨rfl, .bl _⟩
    · rw [of_decide_eq_true (show decide (_ = _) = true from h)]
      exact ⟨⟨_, rfl⟩, .int _⟩
    · rw [of_decide_eq_true (show decide (_ = _) = true from h)]
      exact ⟨⟨_, rfl⟩, .str _⟩
    · rw [of_decide_eq_true (show decide (_ = _) = true from h)]
      exact ⟨rfl, .ref _⟩
  | succ k ih =>
    intro u d h
    cases u <;> cases d <;> first | (cases h; done) | skip
    · exact ⟨rfl, .non⟩
    · rw [eq_of_beq (show (_ == _) = true from h)]
      exact ⟨rfl, .bl _⟩
    · rw [of_decide_eq_true (show decide (_ = _) = true from h)]
      exact ⟨⟨_, rfl⟩, .int _⟩
    · rw [of_decide_eq_true (show decide (_ = _) = true from h)]
      exact ⟨⟨_, rfl⟩, .str _⟩
    · rw [of_decide_eq_true (show decide (_ = _) = true from h)]
      exact ⟨rfl, .ref _⟩
    · rename_i a xs
      refine ⟨rfl, ?_⟩
      unfold datB at h
      split at h
      case h_2 => cases h
      case h_1 t dd its n sl lk =>
        obtain ⟨h1, h⟩ := and_t h
        obtain ⟨h2, h⟩ := and_t h
        obtain ⟨h3, h4⟩ := and_t h
        have h1 := of_decide_eq_true h1
        subst h1
        have all : ∀ (us : List Value) (ds : List DV), us.length = ds.length → (us.zip ds).all (fun q => datB K k q.1 q.2) = true → Vals (us.map vOf) us ∧ HoldAll K F (us.map vOf) ds := by
          intro us
          induction us with
          | nil =>
            intro ds hl _
            cases ds with
            | nil => exact ⟨.nil, .nil⟩
            | cons _ _ => cases hl
          | cons u us ih2 =>
            intro ds hl ha
            cases ds with
            | nil => cases hl
            | cons d ds =>
              rw [List.zip_cons_cons, List.all_cons] at ha
              obtain ⟨a1, a2⟩ := and_t ha
              obtain ⟨b1, b2⟩ := ih2 ds (Nat.succ.inj hl) a2
              obtain ⟨c1, c2⟩ := ih u d a1
              exact ⟨.cons c1 b1, .cons c2 b2⟩
        obtain ⟨v1, v2⟩ := all its.toList xs (of_decide_eq_true h3) h4
        exact .ktup lk rfl rfl (of_decide_eq_true h2) v1 v2
/-- what the module's name x stands for -/
def gv (K : PySem.W.Frag) (x : Str) : Value := match PySem.W.nsIn K mainGlobals x with
  | some (some v) => v
  | _ => .none
def entK : List DictEntry → List (Int × DV) → List (Int × (V × DV))
  | e :: es, q :: qs => (q.1, (vOf e.val, q.2)) :: entK es qs
  | _, _ => []
/-- the table of the written dict at a -/
def wdK (K : PySem.W.Frag) (a : Addr) (qs : List (Int × DV)) : List (Int × (V × DV)) := entK (dictAt K a) qs
/-! ### the look at the top: what its names reach, and the statics -/
/-! ### the law, over a head by facts -/
theorem walk_ofX {l : PySem.W.OpenLaw} {n k : Nat} {q : Program} {loose : List Str} {XP : (Str → Option Value) → Heap → Prop} {YP : World → Heap → Prop} {d : DefRec} {CX : World → CXT} {x : Str}
    (hn : l.most = some n) (hn2 : n ≤ sizeLine) (hdf : d.params.defaults = []) (hr : Room k callerA)
    (hF : ∀ (w : World) (mg : Str → Option Value) (fa : Addr) (h : Heap), YP w h → h.Ns mainGlobals mg → mg d.name = some (.ref fa) → ∃ K : PySem.W.Frag, K.In h ∧ LawAtA l w K (CX w) k n x mg fa h)
    (hCX : ∀ (w : World) (H : Hp) (s : Shared) (y : Value) (s' : Shared), CX w [] H s (fun _ _ _ => False) y s' → False) :
    PySem.W.WalkO q loose XP YP l.row.toRowW d [] (fun f vs => PySem.call f vs) :=
  Att.attach_callB hn hdf fun w s0 s mg mb fa o pm cd doc a vs ns G Y ho hd hcd hmg hobj hints hlen hbits hg => by
    obtain ⟨K, KX, fd, T, sp, ⟨t1, t2, t3⟩, hb, hsp, F⟩ := hF w mg fa _ Y G.T.g hmg
    have e : Entry K mg s.heap T a vs ns := ⟨KX, G.T.g, ⟨mb, G.T.b, G.T.builtins⟩, G.T.nolimit, G.T.bmain, t1, t2, t3, hobj, hints, Nat.le_trans hlen hn2⟩
    exact e.run rfl hg hr F (hb s _) (fun H hT hS => hsp H a ns hlen hbits hT hS) fun H y s' z => hCX w H s y s' z
theorem cx_false {P : Program} {w : World} {H : Hp} {s : Shared} {y : Value} {s' : Shared} (h : L2.CX P w [] H s (fun _ _ _ => False) y s') : False := by
  obtain ⟨_, _, _, _, _, _, _, _, _, _, _, _, z⟩ := h
  exact z
end DL
set_option maxRecDepth 100000
set_option maxHeartbeats 4000000
namespace DL
open PySem PySem.Spec PyProof.Rows L2
/-! ### zip and enumerate over a source: a list, or a tuple -/
/-- what the heap says of a source's object, of its iterator; the iterator's object when it is new -/
def SrcAt (b : Bool) (h : Heap) (a : Addr) (us : Array Value) : Prop := match b with
  | true => h.IsList a us
  | false => h.IsTuple a us
def SrcIt (b : Bool) (h : Heap) (it a : Addr) (i : Nat) : Prop := match b with
  | true => h.IsListIter it a i
  | false => h.IsTupleIter it a i
def srcNew (b : Bool) (a : Addr) : Obj := match b with
  | true => ⟨.type "list_iterator", none, .fields #[.ref a, .int 0 0], #[]⟩
  | false => ⟨.type "tuple_iterator", none, .fields #[.ref a, .int 0 0], #[]⟩
section
variable {b : Bool} {h h' : Heap} {it a : Addr} {i : Nat} {us : Array Value}
theorem SrcIt.object (t : SrcIt b h it a i) : ∃ o, h.get? it = some o ∧ (∀ v, o.data ≠ .cell v) ∧ o.cls ≠ .type "list" ∧ o.cls ≠ .type "tuple" := by
  match b, t with
  | true, ⟨o, e, c, d⟩ => exact ⟨o, e, (fun v z => by rw [d] at z; cases z), by rw [show o.cls = _ from c]; decide, by rw [show o.cls = _ from c]; decide⟩
  | false, ⟨o, e, c, d⟩ => exact ⟨o, e, (fun v z => by rw [d] at z; cases z), by rw [show o.cls = _ from c]; decide, by rw [show o.cls = _ from c]; decide⟩
theorem SrcIt.there (t : SrcIt b h it a i) : it < h.objs.size := by
  obtain ⟨o, e, _⟩ := t.object
  exact Heap.lt_size e
theorem SrcIt.carry (t : SrcIt b h it a i) (k : ∀ o, h.get? it = some o → h'.get? it = some o) : SrcIt b h' it a i := by
  match b, t with
  | true, t => exact Heap.IsListIter.at t k
  | false, t => exact Heap.IsTupleIter.at t k
theorem SrcIt.first (e : h.get? it = some (srcNew b a)) : SrcIt b h it a 0 := by
  match b, e with
  | true, e => exact ⟨_, e, rfl, rfl⟩
  | false, e => exact ⟨_, e, rfl, rfl⟩
theorem SrcIt.ne (t : SrcIt b h it a i) (p : SrcAt b h a us) : a ≠ it := by
  rintro rfl
  obtain ⟨o, e, _, n1, n2⟩ := t.object
  match b, p with
  | true, ⟨o2, e2, c, _⟩ => exact n1 (by rw [Option.some.inj (e.symm.trans e2)]; exact c)
  | false, ⟨o2, e2, c, _⟩ => exact n2 (by rw [Option.some.inj (e.symm.trans e2)]; exact c)
end
section
variable {X : Cx} {pins : List (Addr × Obj)} {σ : L2.St} {H : Hp} {s : Shared} {b : Bool} {a : Addr} {xs ys : List V}
end
/-- the turns of zip: a new pair each, of the items as they stand -/
def ItzB (K : PySem.W.Frag) (k l : Bool) (a b : Addr) : It where
  go := fun i H => ∃ (xs ys : List V) (x y : V), (SqB k K H a xs ∧ xs[i]? = some x) ∧ SqB l K H b ys ∧ ys[i]? = some y
  yld := fun i H v H' => ∃ T x y, (v = .ref T ∧ H T = none ∧ H' = upd H T (.tup [x, y])) ∧ (∀ xs, SqB k K H a xs → xs[i]? = some x) ∧ ∀ ys, SqB l K H b ys → ys[i]? = some y
  stop := fun i H => ∃ xs ys : List V, (SqB k K H a xs ∧ SqB l K H b ys) ∧ i ≤ xs.length ∧ i ≤ ys.length ∧ (i = xs.length ∨ i = ys.length)
/-- zip's five things at turn i: z, the tuple of its iterators, the tuple it hands out, the iterators -/
structure Zst (k l : Bool) (a b z TI TO i1 i2 : Addr) (i : Nat) (h : Heap) : Prop where
  zip : IsZip h z TI TO .none
  ins : IsTupOf2 h TI (.ref i1) (.ref i2)
  out : ∃ x y, IsTupOf2 h TO x y
  one : SrcIt k h i1 a i
  two : SrcIt l h i2 b i
abbrev five (z TI TO i1 i2 : Addr) : List Addr := [z, TI, TO, i1, i2]
theorem five_cases {z TI TO i1 i2 c : Addr} {p : Addr → Prop} (h : c ∈ five z TI TO i1 i2) (hz : p z) (hI : p TI) (hO : p TO) (h1 : p i1) (h2 : p i2) : p c := by
  simp only [List.mem_cons, List.not_mem_nil, or_false] at h
  rcases h with rfl | rfl | rfl | rfl | rfl
  · exact hz
  · exact hI
  · exact hO
  · exact h1
  · exact h2
section
variable {k l : Bool} {a b z TI TO i1 i2 : Addr} {i : Nat} {h h' : Heap}
theorem Zst.object (t : Zst k l a b z TI TO i1 i2 i h) {c : Addr} (hc : c ∈ five z TI TO i1 i2) : ∃ o, h.get? c = some o ∧ ∀ v, o.data ≠ .cell v := by
  obtain ⟨x, y, O⟩ := t.out
  have it : ∀ {b : Bool} {c a : Addr}, SrcIt b h c a i → ∃ o, h.get? c = some o ∧ ∀ v, o.data ≠ .cell v := fun t => by
    obtain ⟨o, e, n, _⟩ := t.object
    exact ⟨o, e, n⟩
  exact five_cases (p := fun c => ∃ o, h.get? c = some o ∧ ∀ v, o.data ≠ .cell v) hc ⟨_, t.zip, fun _ q => nomatch q⟩ ⟨_, t.ins, fun _ q => nomatch q⟩ ⟨_, O, fun _ q => nomatch q⟩ (it t.one) (it t.two)
theorem Zst.carry (t : Zst k l a b z TI TO i1 i2 i h) (kp : ∀ c ∈ five z TI TO i1 i2, ∀ o, h.get? c = some o → h'.get? c = some o) : Zst k l a b z TI TO i1 i2 i h' := by
  obtain ⟨x, y, O⟩ := t.out
  constructor
  · exact kp z (by simp) _ t.zip
  · exact kp TI (by simp) _ t.ins
  · exact ⟨x, y, kp TO (by simp) _ O⟩
  · exact t.one.carry (kp i1 (by simp))
  · exact t.two.carry (kp i2 (by simp))
end
def iZipB (K : PySem.W.Frag) (ta : TA) : TI := fun σ H R => ta σ H fun vs H1 => ∃ k l a b xs ys, vs = [.ref a, .ref b] ∧ SqB k K H1 a xs ∧ SqB l K H1 b ys ∧ R (ItzB K k l a b) H1
/-- the turns of enumerate -/
def IteB (K : PySem.W.Frag) (k : Bool) (a : Addr) : It where
  go := fun i H => ∃ (xs : List V) (x : V), SqB k K H a xs ∧ xs[i]? = some x
  yld := fun i H v H' => ∃ T x, (v = .ref T ∧ H T = none ∧ H' = upd H T (.tup [.int (i : Nat), x])) ∧ ∀ xs, SqB k K H a xs → xs[i]? = some x
  stop := fun i H => ∃ xs : List V, SqB k K H a xs ∧ i = xs.length
structure Est (k : Bool) (a e it : Addr) (i : Nat) (h : Heap) : Prop where
  en : ∃ old, IsEnum h e it ((i : Nat) : Int) old
  src : SrcIt k h it a i
  ne : e ≠ it ∧ e ≠ a
/-- enumerate(v): a new iterator of v's, and the object that counts -/
abbrev enumO (it : Addr) : Obj := { cls := .type "enumerate", data := .fields #[.none, .bool false, .ref it, rawInt 0, .none, .none] }
def iEnumB (K : PySem.W.Frag) (ta : TA) : TI := fun σ H R => ta σ H fun vs H1 => ∃ k a xs, vs = [.ref a] ∧ SqB k K H1 a xs ∧ R (IteB K k a) H1
/-! ### .. by data -/
section
variable {K : PySem.W.Frag} {F : Hp}
end
section
variable {X : Cx} {Z : ZX} {a b : Expr} {ca cb : Nat} {fa fb : DD} {p pos tpos : Pos} {elts : List Expr} {kk : Nat}
end
end DL
set_option maxRecDepth 100000
set_option maxHeartbeats 4000000
namespace DL
open PySem PySem.Spec PyProof.Rows L2
/-! ### range(a, b, -1) -/
def rampd (hi : Int) (n : Nat) : List DV := (List.range n).map fun i => .int (hi - (i : Nat))
section
variable {X : Cx} {Z : ZX} {a b c tg : Expr} {ca cb cc : Nat} {fa fb fc : DD} {p pos : Pos}
def iR3 (fa fb fc : DD) : DI := fun env Q => fa env fun x e1 => fb e1 fun y e2 => fc e2 fun z e3 => match x, y, z with
  | .int i, .int j, .int k => (k = -1 ∧ -4611686018427387904 ≤ i ∧ i < 4611686018427387904 ∧ -4611686018427387904 ≤ j ∧ j < 4611686018427387904 ∧ i - j ≤ 16777216) ∧ Q (rampd i (i - j).toNat) e3
  | _, _, _ => False
end
/-! ### list(range(..)) -/
section
variable {X : Cx} {Z : ZX} {a b e : Expr} {ca cb : Nat} {fa fb : DD} {p p2 pos pos2 : Pos}
def dLR1 (fa : DD) : DE := fun env Q => fa env fun x e => match x with
  | .int j => (-4611686018427387904 ≤ j ∧ j ≤ 16777216) ∧ Q (.o false (.l (ramp 0 j.toNat))) e
  | _ => False
end
/-! ### min(a, b), max(a, b) -/
section
variable {X : Cx} {Z : ZX} {a b : Expr} {ca cb : Nat} {fa fb : DD} {p pos : Pos}
end
/-! ### xs[i] += e, xs a list owned, numbers -/
def wAugL (h : Int → Int → Int) (j : Nat) (fi fe : DD) : WS := fun D env => (∃ b xs, env[j]? = some (.o b (.l xs))) ∧ fi env fun y e1 => (∃ b xs i k, e1[j]? = some (.o b (.l xs)) ∧ y = .int i ∧ 0 ≤ i ∧ xs[i.toNat]? = some (.int k) ∧
  fe e1 fun d e2 => ∃ m, d = .int m ∧ e2[j]? = some (.o b (.l xs)) ∧ D.nx (e2.set j (.o b (.l (xs.set i.toNat (.int (h k m)))))))
end DL
set_option maxRecDepth 100000
set_option maxHeartbeats 4000000
namespace DL
open PySem PySem.Spec PyProof.Rows L2 LamX
/-! ### y = ..; try: a() / except ..: y = ..; return y -/
/-- clauses that set y, at slot j -/
inductive HS (X : Cx) (i : Nat) (n : Str) (y : Str) : List ExceptHandler → List (Addr × WY) → Prop
  | nil : HS X i n y [] []
  | cons {x : Str} {C : Addr} {e : Expr} {g : WY} {np yp rp pos' : Pos} {hds : List ExceptHandler} {l : List (Addr × WY)} (hc : Names X x (.ref C)) (h : PHR X i e g) (hs : swapsWith e (some (.Name y yp)) rp.line X.env = pure false) (r : HS X i n y hds l) :
      HS X i n y (.ExceptHandler (some (.Name x np)) (some n) [.Assign [.Name y yp] e rp] pos' :: hds) ((C, g) :: l)
/-- what y is set to at first: None, or (s,) -/
def first0 : Option Str → Expr → Prop
  | none, e => ∃ k p, e = .Constant .none k p
  | some s, e => ∃ k k2 p p2, e = .Tuple [.Constant (.str s) k p] k2 p2
def TTs (K : PySem.W.Frag) (wy : WY) : Option Str → (XK → Hp → VK → Prop) → Hp → VK → Prop
  | none => fun tl H Q => tl (wishW K wy Q) H fun _ H' => Q .non H'
  | some s => fun tl H Q => ∀ p, H p = none → tl (wishW K wy Q) (upd H p (.tup [.str s])) fun _ H' => Q (.ref p) H'
/-- its reading -/
def t0 : Option Str → TE
  | none => fun σ H Q => Q .non H
  | some s => fun σ H Q => ∀ p, H p = none → Q (.ref p) (upd H p (.tup [.str s]))
/-- the value of y as data -/
def stD : Option Str → DV
  | none => .non
  | some s => .tup [.str s]
end DL
set_option maxRecDepth 100000
set_option maxHeartbeats 4000000
namespace DL
open PySem PySem.Spec PyProof.Rows L2 LamX
/-! ### a, b = .., where a name is not the def's own slot alone -/
def farN (env : Env) : Expr → Bool
  | .Name id _ => !(env.kindOf id == some .local)
  | _ => true
theorem fm_short {α β : Type} (f : α → Option β) (q : α → Bool) (hq : ∀ t, q t = true → f t = none) : ∀ ts : List α, ts.any q = true → (ts.filterMap f).length < ts.length
  | [], h => by cases h
  | t :: ts, h => by
    have le := List.length_filterMap_le f ts
    cases e : f t with
    | none =>
      rw [List.filterMap_cons_none e, List.length_cons]
      omega
    | some b =>
      rw [List.filterMap_cons_some e, List.length_cons, List.length_cons]
      rw [List.any_cons] at h
      have h1 : q t = false := by
        cases c : q t with
        | false => rfl
        | true =>
          rw [hq t c] at e
          cases e
      rw [h1, Bool.false_or] at h
      have := fm_short f q hq ts h
      omega
theorem swap_any {ts : List Expr} {kt : Nat} {pt : Pos} {e : Expr} {env : Env} (h : ts.any (farN env) = true) : swappedStores [.Tuple ts kt pt] e env = pure none := by
  unfold swappedStores
  cases e
  case Tuple vs k p =>
    dsimp only
    split
    · rfl
    · split
      · rfl
      · rw [if_pos]
        rw [Bool.or_eq_true]
        left
        rw [bne_iff_ne]
        refine Nat.ne_of_lt (fm_short _ (farN env) (fun t ht => ?_) ts h)
        cases t
        case Name id pos =>
          have e1 : (env.kindOf id == some .local) = false := by
            have h2 : (!(env.kindOf id == some .local)) = true := ht
            cases c : (env.kindOf id == some .local) with
            | false => rfl
            | true =>
              rw [c] at h2
              cases h2
          dsimp only
          rw [e1]
          rfl
        all_goals rfl
  all_goals rfl
end DL
set_option maxRecDepth 100000
set_option maxHeartbeats 4000000
namespace DL
open PySem PySem.Spec PyProof.Rows L2 LamX
/-! ### xs.index(e), numbers; list(range(a, b)) -/
def isLst (env : List Cell) (j : Nat) : Prop := ∃ xs, (env[j]?).bind Cell.view = some (.lst xs)
def dIndex (j : Nat) (f : DD) : DE := fun env Q => isLst env j ∧ f env fun y e => ∃ (ns : List Int) (i : Int) (k : Nat), ((e[j]?).bind Cell.view = some (.lst (ns.map DV.int)) ∧ y = .int i) ∧ (ns[k]? = some i ∧ ∀ m, m < k → ns[m]? ≠ some i) ∧ Q (.d (.int (k : Nat))) e
def dLR2 (fa fb : DD) : DE := fun env Q => fa env fun x e => fb e fun y e2 => match x, y with
  | .int i, .int j => (-4611686018427387904 ≤ i ∧ i < 4611686018427387904 ∧ -4611686018427387904 ≤ j ∧ j < 4611686018427387904 ∧ j - i ≤ 16777216) ∧ Q (.o false (.l (ramp i (j - i).toNat))) e2
  | _, _ => False
end DL
set_option maxRecDepth 100000
set_option maxHeartbeats 4000000
namespace DL
open PySem PySem.Spec PyProof.Rows L2 LamX
/-! ### bodies of lambdas: readings that grow with what may be raised -/
abbrev YD : Type := Addr → List (Str × DV) → List Cell → Prop
def FM (f : YD → DD) : Prop := ∀ (G G' : YD) (env : List Cell) (Q Q' : DV → List Cell → Prop), (∀ C fs e, G C fs e → G' C fs e) → (∀ d e, Q d e → Q' d e) → f G env Q → f G' env Q'
def FMB (f : YD → DB) : Prop := ∀ (G G' : YD) (env : List Cell) (Q Q' : List Arg → List Cell → Prop), (∀ C fs e, G C fs e → G' C fs e) → (∀ d e, Q d e → Q' d e) → f G env Q → f G' env Q'
def FMA (f : YD → DA) : Prop := ∀ (G G' : YD) (env : List Cell) (Q Q' : List DV → List Cell → Prop), (∀ C fs e, G C fs e → G' C fs e) → (∀ d e, Q d e → Q' d e) → f G env Q → f G' env Q'
/-! ### a, b = x, y, by a tuple: names that are not the def's own slots alone -/
theorem Res.onto {B : Base} {K : PySem.W.Frag} {Z : ZX} {F H : Hp} {n : Nat} {σ : L2.St} {env : List Cell} {v : V} {c : Cell} {p : Addr} {o : HO} (S : SOk B K Z F H n σ env) (r : Res B K F H n σ env v c) (hp : H p = none) : Res B K F (upd H p o) n σ env v c := by
  have key : ∀ b oc a, c = .o b oc → v = .ref a → ∀ x ∈ fp H a oc, upd H p o x = H x := fun b oc a e1 e2 x hx => by
    subst e1
    subst e2
    obtain ⟨⟨a2, e, h1, h2, _⟩, _⟩ := r
    cases e
    obtain ⟨o', eo, _⟩ := h2.pl x hx
    exact upd_ne (by rintro rfl; rw [hp] at eo; cases eo)
  obtain ⟨r1, r2, r3⟩ := r
  have ef : ∀ b oc a, c = .o b oc → v = .ref a → fp (upd H p o) a oc = fp H a oc := fun b oc a e1 e2 => fp_congr (key b oc a e1 e2)
  refine ⟨r1.mono (Ext.refl _) (Nat.le_refl _) fun a b c' e ec x hx => ⟨key b c' a ec (Option.some.inj e) x hx, ?_⟩, r2, fun b oc a e1 e2 x hx => ⟨fun i b' c' a' ei ea => ?_, ?_⟩⟩
  · subst ec
    cases e
    obtain ⟨a2, e, h1, _⟩ := r1
    cases e
    exact h1 x hx
  · rw [ef b oc a e1 e2] at hx
    rw [fp_upd S.toCore hp ei ea]
    exact (r3 b oc a e1 e2 x hx).1 i b' c' a' ei ea
  · rw [ef b oc a e1 e2] at hx
    exact (r3 b oc a e1 e2 x hx).2
theorem Apart.onto {B : Base} {K : PySem.W.Frag} {F H : Hp} {n : Nat} {σ : L2.St} {env : List Cell} {v w : V} {c c' : Cell} {p : Addr} {o : HO} (r : Res B K F H n σ env v c) (r2 : Res B K F H n σ env w c') (h : Apart H v c w c') (hp : H p = none) : Apart (upd H p o) v c w c' := by
  have key : ∀ {v : V} {c : Cell}, Res B K F H n σ env v c → ∀ b oc a, c = .o b oc → v = .ref a → fp (upd H p o) a oc = fp H a oc := fun {v c} r b oc a e1 e2 => by
    subst e1
    subst e2
    obtain ⟨⟨a2, e, h1, h2, _⟩, _⟩ := r
    cases e
    refine fp_congr fun x hx => ?_
    obtain ⟨o', eo, _⟩ := h2.pl x hx
    exact upd_ne (by rintro rfl; rw [hp] at eo; cases eo)
  intro b oc a b' oc' a' e1 e2 e3 e4 x hx hy
  rw [key r b oc a e1 e2] at hx
  rw [key r2 b' oc' a' e3 e4] at hy
  exact h b oc a b' oc' a' e1 e2 e3 e4 x hx hy
/-! ### a slot is frozen ahead (a name that a lambda reads) -/
def dPre (j : Nat) (f : DE) : DE := fun env Q => dVar j env fun _ e => f e Q
theorem pcPre {X : Cx} {Z : ZX} {e : Expr} {c : Nat} {f : DE} (j : Nat) (h : PEc X Z e c f) : PEc X Z e c (dPre j f) := by
  refine ⟨fun env Q Q' q g => mono_var j _ _ _ (fun d e k => h.mono _ _ _ q k) g, PE_imp h.run fun σ H Q ⟨B, F, n, env, hn, S, g⟩ => ?_⟩
  unfold dPre dVar at g
  split at g
  · exact ⟨B, F, n, env, hn, S, g⟩
  · rename_i c0 e0
    simp only at g
    split at g
    · rename_i d e2
      obtain ⟨a, F', e1, S', x', _⟩ := S.freeze e0 e2
      exact bindC h.mono hn S' g fun r e1 v H1 F1 k S1 x1 hv => k v H1 F1 S1 ((Ext.of x').trans x1) hv
    · exact g.elim
  · exact g.elim
end DL
set_option maxRecDepth 100000
set_option maxHeartbeats 4000000
namespace DL
open PySem PySem.Spec PyProof.Rows L2 LamX
/-! ### owned objects as trees -/
def OC.ov : OC → Option OV
  | .l xs => some (.l (xs.map OV.d))
  | .k kvs => some (.k (kvs.map (·.1)) ((kvs.map (·.2)).map OV.d))
  | .t kvs => some (.t (kvs.map (·.1)) ((kvs.map (·.2)).map OV.d))
  | .ins C fs => some (.ins C (fs.map (·.1)) ((fs.map (·.2)).map OV.d))
  | .tr x => some x
  | .pen => none
  | .u _ => none
def Cell.ov : Cell → Option OV
  | .d x => some (.d x)
  | .o false c => c.ov
  | _ => none
section
variable {B : Base} {K : PySem.W.Frag} {Z Z' : ZX} {F F' H H' : Hp} {n n' : Nat} {σ σ' : L2.St} {env env' : List Cell}
theorem leaves_ok : ∀ {vs : List V} {xs : List DV}, HoldAll K F vs xs → OvAll K F H (xs.map OV.d) vs
  | _, _, .nil => by rw [List.map_nil, OvAll]
  | _, _, .cons h t => by
    rw [List.map_cons, OvAll]
    exact ⟨_, _, rfl, by rw [OvOk]; exact h, leaves_ok t⟩
theorem leaves_fp : ∀ (xs : List DV) (vs : List V), fpl H (xs.map OV.d) vs = []
  | [], vs => by rw [List.map_nil, fpl]
  | x :: xs, vs => by rw [List.map_cons, fpl, fpv, leaves_fp xs]; rfl
theorem adr_ref (a : Addr) : adr (.ref a) = [a] := rfl
theorem OCOk.tree {a : Addr} : ∀ {c : OC} {t : OV}, OCOk K F H n a c → c.ov = some t → OvOk K F H t (.ref a) ∧ t.node ∧ fpv H t (.ref a) = fp H a c
  | .l xs, t, ⟨vs, h1, h2⟩, e => by
    cases e
    refine ⟨by rw [OvOk]; exact ⟨a, vs, rfl, h1, leaves_ok h2⟩, trivial, ?_⟩
    rw [fpv, leaves_fp, adr_ref]
    rfl
  | .k kvs, t, ⟨us, h1, h2, h3⟩, e => by
    cases e
    refine ⟨by rw [OvOk]; exact ⟨a, us, rfl, h1, h2, leaves_ok h3⟩, trivial, ?_⟩
    rw [fpv, leaves_fp, adr_ref]
    rfl
  | .t kvs, t, ⟨us, h1, h2, h3⟩, e => by
    cases e
    refine ⟨by rw [OvOk]; exact ⟨a, us, rfl, h1, h2, leaves_ok h3⟩, trivial, ?_⟩
    rw [fpv, leaves_fp, adr_ref]
    rfl
  | .ins C fs, t, ⟨dx, us, h1, h2, h3⟩, e => by
    cases e
    refine ⟨by rw [OvOk]; exact ⟨a, dx, us, rfl, h1, h2, leaves_ok h3⟩, trivial, ?_⟩
    rw [fpv, leaves_fp, adr_ref]
    rfl
  | .tr x, t, ⟨h1, h2, h3⟩, e => by
    cases e
    exact ⟨h2, h1, rfl⟩
  | .pen, t, _, e => by cases e
  | .u _, t, _, e => by cases e
/-- what no slot knows -/
def Free (B : Base) (F H : Hp) (σ : L2.St) (env : List Cell) (y : Addr) : Prop := (F y = none ∧ NewAt B y) ∧ ∀ (i : Nat) (b' : Bool) (c' : OC) (a' : Addr), env[i]? = some (.o b' c') → σ[i]? = some (some (.ref a')) → y ∉ fp H a' c'
theorem Res.ov {v : V} {c : Cell} {t : OV} (r : Res B K F H n σ env v c) (e : c.ov = some t) : OvOk K F H t v ∧ (fpv H t v).Nodup ∧ ∀ y ∈ fpv H t v, Free B F H σ env y := by
  obtain ⟨r1, r2, r3⟩ := r
  cases c with
  | un => cases e
  | d x =>
    cases e
    obtain ⟨v', e, h⟩ := r1
    cases e
    exact ⟨by rw [OvOk]; exact h, by rw [fpv]; exact List.nodup_nil, fun y hy => by rw [fpv] at hy; cases hy⟩
  | o b c =>
    cases b with
    | true => cases e
    | false =>
      obtain ⟨a, ea, h1, h2, _⟩ := r1
      cases ea
      obtain ⟨q1, q2, q3⟩ := h2.tree e
      refine ⟨q1, by rw [q3]; exact h2.nodup, fun y hy => ?_⟩
      rw [q3] at hy
      exact ⟨⟨h1 y hy, (r3 _ _ _ rfl rfl y hy).2⟩, (r3 _ _ _ rfl rfl y hy).1⟩
/-- a list in the making, its items owned -/
structure Pend (B : Base) (K : PySem.W.Frag) (F H : Hp) (σ : L2.St) (env : List Cell) (D : Addr) (av : List V) (ad : List OV) : Prop where
  at_ : H D = some (.lst av)
  all : OvAll K F H ad av
  nd : (D :: fpl H ad av).Nodup
  free : ∀ y ∈ D :: fpl H ad av, Free B F H σ env y
theorem Pend.pl {D : Addr} {av : List V} {ad : List OV} (p : Pend B K F H σ env D av ad) : ∀ y ∈ D :: fpl H ad av, ∃ o, H y = some o ∧ plain o = true := fun y hy => by
  rcases List.mem_cons.mp hy with rfl | hy
  · exact ⟨_, p.at_, rfl⟩
  · exact OvAll.pl _ _ p.all y hy
theorem Pend.to {D : Addr} {av : List V} {ad : List OV} (p : Pend B K F H σ env D av ad) (x : Ext F F') (k : ∀ y ∈ D :: fpl H ad av, H' y = H y) (f : ∀ y ∈ D :: fpl H ad av, Free B F' H' σ' env' y) : Pend B K F' H' σ' env' D av ad := by
  have ef : fpl H' ad av = fpl H ad av := fpl_congr ad av fun y hy => k y (List.mem_cons_of_mem _ hy)
  exact ⟨(k D List.mem_cons_self).trans p.at_, OvAll.mono x ad av (fun y hy => k y (List.mem_cons_of_mem _ hy)) p.all, by rw [ef]; exact p.nd, by rw [ef]; exact f⟩
theorem Pend.aside {D : Addr} {av : List V} {ad : List OV} (p : Pend B K F H σ env D av ad) (S : SOk B K Z F H n σ env) (T : SOk (DL.reb B F H σ env) K Z' F' H' n' σ' env') (x : Ext F F') : Pend B K F' H' σ' env' D av ad := by
  have key : ∀ y ∈ D :: fpl H ad av, (H' y = H y ∧ F' y = none) ∧ ∀ (i : Nat) (b' : Bool) (c' : OC) (a' : Addr), env'[i]? = some (.o b' c') → σ'[i]? = some (some (.ref a')) → y ∉ fp H' a' c' := fun y hy => by
    obtain ⟨o, eo, po⟩ := p.pl y hy
    obtain ⟨⟨q1, q2⟩, q3⟩ := p.free y hy
    exact S.aside T eo po q2 q1 q3
  exact p.to x (fun y hy => (key y hy).1.1) fun y hy => ⟨⟨(key y hy).1.2, (p.free y hy).1.2⟩, (key y hy).2⟩
/-- the heap grows -/
theorem Pend.grow {D : Addr} {av : List V} {ad : List OV} (p : Pend B K F H σ env D av ad) (S : SOk B K Z F H n σ env) (x : Ext F F') (s : Same H H') (f : ∀ y, (H y).isSome = true → F' y = F y) : Pend B K F' H' σ env D av ad := by
  have k : ∀ y o, H y = some o → H' y = H y := fun y o e => by rw [e]; exact s _ _ e
  refine p.to x (fun y hy => let ⟨o, eo, _⟩ := p.pl y hy; k y o eo) fun y hy => ?_
  obtain ⟨o, eo, _⟩ := p.pl y hy
  refine ⟨⟨(f y (by rw [eo]; rfl)).trans (p.free y hy).1.1, (p.free y hy).1.2⟩, fun i b' c' a' ei si hz => ?_⟩
  obtain ⟨_, g2, _⟩ := S.toCore.ownAt ei si
  rw [fp_congr fun z hz => let ⟨o, eo, _⟩ := g2.pl z hz; k z o eo] at hz
  exact (p.free y hy).2 i b' c' a' ei si hz
theorem OvAll.snoc : ∀ {xs : List OV} {vs : List V} {x : OV} {v : V}, OvAll K F H xs vs → OvOk K F H x v → OvAll K F H (xs ++ [x]) (vs ++ [v])
  | [], vs, x, v, h, g => by
    rw [OvAll] at h
    subst h
    show OvAll K F H [x] [v]
    rw [OvAll]
    exact ⟨v, [], rfl, g, by rw [OvAll]⟩
  | y :: xs, vs, x, v, h, g => by
    rw [OvAll] at h
    obtain ⟨u, us, rfl, h1, h2⟩ := h
    rw [List.cons_append, List.cons_append, OvAll]
    exact ⟨u, us ++ [v], rfl, h1, OvAll.snoc h2 g⟩
theorem fpl_snoc : ∀ {xs : List OV} {vs : List V} {x : OV} {v : V}, OvAll K F H xs vs → fpl H (xs ++ [x]) (vs ++ [v]) = fpl H xs vs ++ fpv H x v
  | [], vs, x, v, h => by
    rw [OvAll] at h
    subst h
    show fpl H [x] [v] = fpl H [] [] ++ fpv H x v
    rw [fpl, fpl, fpl, List.append_nil, List.nil_append]
    rfl
  | y :: xs, vs, x, v, h => by
    rw [OvAll] at h
    obtain ⟨u, us, rfl, h1, h2⟩ := h
    rw [List.cons_append, List.cons_append, fpl, fpl]
    show fpv H y u ++ fpl H (xs ++ [x]) (us ++ [v]) = fpv H y u ++ fpl H xs us ++ fpv H x v
    rw [fpl_snoc h2, List.append_assoc]
/-- one more item -/
theorem Pend.snoc {D : Addr} {av : List V} {ad : List OV} {t : OV} {v : V} (p : Pend B K F H σ env D av ad) (S : SOk B K Z F H n σ env) (h : OvOk K F H t v) (nd : (fpv H t v).Nodup) (hf : ∀ y ∈ fpv H t v, Free B F H σ env y) (dj : ∀ y ∈ fpv H t v, y ∉ D :: fpl H ad av) :
    Pend B K F (upd H D (.lst (av ++ [v]))) σ env D (av ++ [v]) (ad ++ [t]) ∧ SOk B K Z F (upd H D (.lst (av ++ [v]))) n σ env := by
  have fD := p.free D List.mem_cons_self
  have q : ∀ y, y ≠ D → upd H D (.lst (av ++ [v])) y = H y := fun y ne => upd_ne ne
  have all := OvAll.snoc p.all h
  have efp := fpl_snoc (x := t) (v := v) p.all
  have nD : D ∉ fpl H (ad ++ [t]) (av ++ [v]) := fun z => by
    rw [efp] at z
    rcases List.mem_append.mp z with z | z
    · exact (List.nodup_cons.mp p.nd).1 z
    · exact dj D z List.mem_cons_self
  have k : ∀ y ∈ fpl H (ad ++ [t]) (av ++ [v]), upd H D (.lst (av ++ [v])) y = H y := fun y hy => q y (by rintro rfl; exact nD hy)
  have ef := fpl_congr _ _ k
  have fo : ∀ (i : Nat) (b' : Bool) (c' : OC) (a' : Addr), env[i]? = some (.o b' c') → σ[i]? = some (some (.ref a')) → fp (upd H D (.lst (av ++ [v]))) a' c' = fp H a' c' := fun i b' c' a' ei si => fp_congr fun y hy => q y (by rintro rfl; exact fD.2 i b' c' a' ei si hy)
  have tr : ∀ y, Free B F H σ env y → Free B F (upd H D (.lst (av ++ [v]))) σ env y := fun y g => ⟨g.1, fun i b' c' a' ei si hz => by
    rw [fo i b' c' a' ei si] at hz
    exact g.2 i b' c' a' ei si hz⟩
  refine ⟨⟨upd_same, OvAll.mono (Ext.refl _) _ _ k all, ?_, ?_⟩, S.poke p.at_ rfl fD.1.2 fD.1.1 fD.2⟩
  · rw [ef]
    refine List.nodup_cons.mpr ⟨nD, ?_⟩
    rw [efp]
    exact List.nodup_append.mpr ⟨(List.nodup_cons.mp p.nd).2, nd, fun x hx y hy z => by subst z; exact dj x hy (List.mem_cons_of_mem _ hx)⟩
  · rw [ef]
    intro y hy
    rcases List.mem_cons.mp hy with rfl | hy
    · exact tr _ fD
    · rw [efp] at hy
      rcases List.mem_append.mp hy with hy | hy
      · exact tr _ (p.free y (List.mem_cons_of_mem _ hy))
      · exact tr _ (hf y hy)
end
/-! ### [f for x in xs], items owned -/
def goLcT (vs : List Nat) (g : DG) (t : DT) (f : DE) (Q : List OV → List Cell → Prop) : List DV → List OV → List Cell → Prop
  | [], acc, env => Q acc env
  | d :: ds, acc, env => g d (wipeD env vs) fun e2 => t e2 fun k e3 => if k = true then f e3 fun r e4 => optP r.ov fun y => goLcT vs g t f Q ds (acc ++ [y]) e4 else goLcT vs g t f Q ds acc e3
def dLcT (vs : List Nat) (i : DI) (g : DG) (t : DT) (f : DE) : DE := fun env Q => i env fun ds e => noOwn e vs ∧ goLcT vs g t f (fun acc e' => Q (.o false (.tr (.l acc))) (backD e e' vs)) ds [] e
section
variable {Z : ZX}
end
section
variable {X : Cx} {Z : ZX} {elt tg iter : Expr} {ifs : List Expr} {scope : Scope} {own : List (Str × Nat)} {pos : Pos} {ci ct ce : Nat} {i : DI} {js : List Nat} {g : DG} {t : DT} {f : DE}
end
end DL
set_option maxRecDepth 100000
set_option maxHeartbeats 4000000
namespace DL
open PySem PySem.Spec PyProof.Rows L2 LamX
/-! ### paths in trees -/
def OV.kids : OV → List OV
  | .d _ => []
  | .l xs => xs
  | .k _ xs => xs
  | .t _ xs => xs
  | .ins _ _ xs => xs
def OV.wk : OV → List OV → OV
  | .d x, _ => .d x
  | .l _, xs => .l xs
  | .k ks _, xs => .k ks xs
  | .t ks _, xs => .t ks xs
  | .ins C ns _, xs => .ins C ns xs
def OV.sub : OV → List Nat → Option OV
  | x, [] => some x
  | x, i :: p => (x.kids[i]?).bind fun y => OV.sub y p
def OV.putP : OV → List Nat → OV → OV
  | _, [], y => y
  | x, i :: p, y => match x.kids[i]? with
    | some z => x.wk (x.kids.set i (OV.putP z p y))
    | none => x
section
variable {K : PySem.W.Frag} {F H H' : Hp}
def valP (H : Hp) : V → List Nat → Option V
  | v, [] => some v
  | v, i :: p => ((kidsAt H v)[i]?).bind fun w => valP H w p
/-- the shape of a node -/
def Shape (H : Hp) (x : OV) (v : V) : Prop := ∃ a, v = .ref a ∧ match x with
  | .d _ => False
  | .l _ => ∃ vs, H a = some (.lst vs)
  | .k ks _ => ∃ us : List (Key × V), H a = some (.dK us) ∧ us.map (·.1) = ks
  | .t ks _ => ∃ us : List (List Key × V), H a = some (.dT us) ∧ us.map (·.1) = ks
  | .ins C ns _ => ∃ (dx : Addr) (us : List (Str × V)), H a = some (.ins C dx us) ∧ us.map (·.1) = ns
theorem Shape.congr {x : OV} {a : Addr} (h : Shape H x (.ref a)) (e : H' a = H a) : Shape H' x (.ref a) := by
  obtain ⟨b, eb, h⟩ := h
  cases eb
  refine ⟨a, rfl, ?_⟩
  cases x <;> first | exact h.elim | (simp only at h ⊢; rw [e]; exact h)
theorem Shape.wk {x : OV} {v : V} {xs : List OV} (h : Shape H x v) : Shape H (x.wk xs) v := by
  obtain ⟨a, rfl, h⟩ := h
  refine ⟨a, rfl, ?_⟩
  cases x <;> first | exact h.elim | exact h
theorem OvAll.get : ∀ {xs : List OV} {vs : List V} {i : Nat} {x : OV}, OvAll K F H xs vs → xs[i]? = some x → ∃ v, vs[i]? = some v ∧ OvOk K F H x v ∧ ∀ y ∈ fpv H x v, y ∈ fpl H xs vs
  | [], vs, i, x, _, e => by simp at e
  | z :: xs, vs, i, x, h, e => by
    rw [OvAll] at h
    obtain ⟨v, us, rfl, h1, h2⟩ := h
    cases i with
    | zero =>
      have ez : z = x := by simpa using e
      subst ez
      refine ⟨v, rfl, h1, fun y hy => ?_⟩
      rw [fpl]
      exact List.mem_append_left _ hy
    | succ i =>
      obtain ⟨w, q1, q2, q3⟩ := OvAll.get (i := i) h2 (by simpa using e)
      refine ⟨w, by simpa using q1, q2, fun y hy => ?_⟩
      rw [fpl]
      exact List.mem_append_right _ (q3 y hy)
end
end DL
set_option maxRecDepth 100000
set_option maxHeartbeats 4000000
namespace DL
open PySem PySem.Spec PyProof.Rows L2 LamX
/-! ### x[i]..[j] within a tree -/
def OV.kix : OV → DV → Option Nat
  | .l xs, .int i => ixN xs.length i
  | .k ks _, y => y.key.bind fun k => ks.findIdx? fun k' => decide (k' = k)
  | .t ks _, y => y.tkey.bind fun k => ks.findIdx? fun k' => decide (k' = k)
  | _, _ => none
def OV.res : OV → List DV → Option (List Nat × OV)
  | x, [] => some ([], x)
  | x, y :: ys => (x.kix y).bind fun i => (x.kids[i]?).bind fun z => (OV.res z ys).map fun r => (i :: r.1, r.2)
section
variable {K : PySem.W.Frag} {F H H' : Hp}
end
/-- an index that is read without a change -/
def PXi (X : Cx) (e : Expr) (f : List Cell → Option DV) : Prop := ∃ p : L2.St → V → Prop, PE X e (fun σ H Q => ∃ v, p σ v ∧ Q v H) ∧
  ∀ {B : Base} {Z : ZX} {F H : Hp} {n : Nat} {σ : L2.St} {env : List Cell} {d : DV}, SOk B X.K Z F H n σ env → f env = some d → ∃ v, p σ v ∧ Hold X.K F v d
def xVar (i : Nat) (env : List Cell) : Option DV := match env[i]? with
  | some (.d x) => some x
  | _ => none
def xC (d : DV) (_ : List Cell) : Option DV := some d
section
variable {X : Cx} {pos : Pos}
end
def allS {α : Type} : List (Option α) → Option (List α)
  | [] => some []
  | o :: os => o.bind fun x => (allS os).map (x :: ·)
/-- a place within the tree at slot j -/
def PTx (X : Cx) (j : Nat) (e : Expr) (fs : List (List Cell → Option DV)) : Prop := ∃ t : TE, PE X e t ∧
  ∀ {B : Base} {Z : ZX} {F H : Hp} {n : Nat} {σ : L2.St} {env : List Cell} {b : Bool} {T : OV} {ys : List DV} {p : List Nat} {s : OV}, SOk B X.K Z F H n σ env → env[j]? = some (.o b (.tr T)) → allS (fs.map fun f => f env) = some ys → T.res ys = some (p, s) →
    ∀ Q : VK, (∀ a w, σ[j]? = some (some (.ref a)) → valP H (.ref a) p = some w → OvOk X.K F H s w → Q w H) → t σ H Q
section
variable {X : Cx} {pos : Pos} {j : Nat}
end
def treeAt (env : List Cell) (j : Nat) (fs : List (List Cell → Option DV)) : Option OV := match env[j]? with
  | some (.o _ (.tr T)) => (allS (fs.map fun f => f env)).bind fun ys => (T.res ys).map (·.2)
  | _ => none
/-- what may be viewed of a tree as it stands -/
def leaves? : List OV → Option (List DV)
  | [] => some []
  | .d x :: xs => (leaves? xs).map (x :: ·)
  | _ :: _ => none
theorem leaves_eq : ∀ {xs : List OV} {ds : List DV}, leaves? xs = some ds → xs = ds.map OV.d
  | [], ds, e => by cases e; rfl
  | .d x :: xs, ds, e => by
    obtain ⟨ys, h, e2⟩ := Option.map_eq_some_iff.mp e
    subst e2
    rw [leaves_eq h]
    rfl
  | .l _ :: _, ds, e => by cases e
  | .k _ _ :: _, ds, e => by cases e
  | .t _ _ :: _, ds, e => by cases e
  | .ins _ _ _ :: _, ds, e => by cases e
def OV.flat : OV → Option DV
  | .d x => some x
  | .l xs => (leaves? xs).map .lst
  | .k ks xs => (leaves? xs).map fun ds => .dk (ks.zip ds)
  | .t ks xs => (leaves? xs).map fun ds => .dt (ks.zip ds)
  | .ins C ns xs => (leaves? xs).map fun ds => .ins C (ns.zip ds)
section
variable {K : PySem.W.Frag} {F H : Hp} {n : Nat}
theorem all_leaves : ∀ {ds : List DV} {vs : List V}, OvAll K F H (ds.map OV.d) vs → HoldAll K F vs ds
  | [], vs, h => by
    rw [List.map_nil, OvAll] at h
    subst h
    exact .nil
  | d :: ds, vs, h => by
    rw [List.map_cons, OvAll] at h
    obtain ⟨v, us, rfl, h1, h2⟩ := h
    rw [OvOk] at h1
    exact .cons h1 (all_leaves h2)
theorem OvOk.view {s : OV} {w : V} {d : DV} (h : OvOk K F H s w) (e : s.flat = some d) : View K F H n w d := by
  cases s with
  | d x =>
    cases e
    rw [OvOk] at h
    exact .inl h
  | l xs =>
    obtain ⟨ds, h1, e⟩ := Option.map_eq_some_iff.mp e
    subst e
    rw [leaves_eq h1, OvOk] at h
    obtain ⟨a, vs, rfl, g1, g2⟩ := h
    exact .inr ⟨a, .l ds, rfl, ⟨vs, g1, all_leaves g2⟩, rfl⟩
  | k ks xs =>
    obtain ⟨ds, h1, e⟩ := Option.map_eq_some_iff.mp e
    subst e
    rw [leaves_eq h1, OvOk] at h
    obtain ⟨a, us, rfl, g1, g3, g2⟩ := h
    have hh := all_leaves g2
    have hl : ds.length = ks.length := by rw [← hh.length, List.length_map, ← g3, List.length_map]
    exact .inr ⟨a, .k (ks.zip ds), rfl, ⟨us, g1, by rw [zip_fst _ _ hl, g3], by rw [zip_snd _ _ hl]; exact hh⟩, rfl⟩
  | t ks xs =>
    obtain ⟨ds, h1, e⟩ := Option.map_eq_some_iff.mp e
    subst e
    rw [leaves_eq h1, OvOk] at h
    obtain ⟨a, us, rfl, g1, g3, g2⟩ := h
    have hh := all_leaves g2
    have hl : ds.length = ks.length := by rw [← hh.length, List.length_map, ← g3, List.length_map]
    exact .inr ⟨a, .t (ks.zip ds), rfl, ⟨us, g1, by rw [zip_fst _ _ hl, g3], by rw [zip_snd _ _ hl]; exact hh⟩, rfl⟩
  | ins C ks xs =>
    obtain ⟨ds, h1, e⟩ := Option.map_eq_some_iff.mp e
    subst e
    rw [leaves_eq h1, OvOk] at h
    obtain ⟨a, dx, us, rfl, g1, g3, g2⟩ := h
    have hh := all_leaves g2
    have hl : ds.length = ks.length := by rw [← hh.length, List.length_map, ← g3, List.length_map]
    exact .inr ⟨a, .ins C (ks.zip ds), rfl, ⟨dx, us, g1, by rw [zip_fst _ _ hl, g3], by rw [zip_snd _ _ hl]; exact hh⟩, rfl⟩
end
/-- x[i]..[j], data -/
def dTix (j : Nat) (fs : List (List Cell → Option DV)) : DD := fun env Q => match treeAt env j fs with
  | some (.d x) => Q x env
  | _ => False
/-- x[i]..[j], viewed -/
def dTvw (j : Nat) (fs : List (List Cell → Option DV)) : DD := fun env Q => optP ((treeAt env j fs).bind OV.flat) fun d => Q d env
section
variable {X : Cx} {Z : ZX} {e : Expr} {j : Nat} {fs : List (List Cell → Option DV)}
end
/-! ### x[i]..[j] = e -/
def OV.setL : OV → DV → DV → Option OV
  | .l xs, .int i, z => (ixN xs.length i).map fun m => .l (xs.set m (.d z))
  | _, _, _ => none
def treePut (g : OV → DV → DV → Option OV) (env : List Cell) (j : Nat) (fs : List (List Cell → Option DV)) (f : List Cell → Option DV) (d : DV) : Option Cell := match env[j]? with
  | some (.o b (.tr T)) => (allS (fs.map fun f => f env)).bind fun ys => (f env).bind fun y => (T.res ys).bind fun r => (g r.2 y d).map fun s' => .o b (.tr (T.putP r.1 s'))
  | _ => none
section
variable {K : PySem.W.Frag} {F H : Hp}
end
def wTputL (j : Nat) (fs : List (List Cell → Option DV)) (f : List Cell → Option DV) (fe : DD) : WS := fun D env => fe env fun d e1 => optP (treePut OV.setL e1 j fs f d) fun c => D.nx (e1.set j c)
section
variable {X : Cx} {Z : ZX} {e x i : Expr} {c : Nat} {fe : DD} {j : Nat} {fs : List (List Cell → Option DV)} {f : List Cell → Option DV} {pos pos' : Pos}
end
end DL
set_option maxRecDepth 100000
set_option maxHeartbeats 4000000
namespace DL
open PySem PySem.Spec PyProof.Rows L2 LamX
end DL
set_option maxRecDepth 100000
set_option maxHeartbeats 4000000
namespace DL
open PySem PySem.Spec PyProof.Rows L2 LamX
/-! ### two dicts that are equal -/
def DkSame (K : PySem.W.Frag) (x y : V) (H : Hp) : Prop := ∃ a b ks ls, x = .ref a ∧ y = .ref b ∧ Rd H a (.dK ks) ∧ Rd H b (.dK ls) ∧ ks.length = ls.length ∧ ∀ p ∈ ks, ∃ u d, valV ls p.1 = some u ∧ Dp K H p.2 d ∧ Dp K H u d ∧ d.canLay0 = true ∧ d.depth ≤ 60
def rDk (K : PySem.W.Frag) (b : Bool) : R2 := fun x y H Q => DkSame K x y H ∧ Q (.bl b) H
def gDk (b : Bool) : DV → DV → (Bool → Prop) → Prop := fun x y Q => ∃ kvs : List (Key × DV), (x = .dk kvs ∧ y = .dk kvs) ∧ (kvs.map (·.1)).Nodup ∧ (∀ p ∈ kvs, p.2.ok 60 = true) ∧ Q b
section
variable {X : Cx} {Z : ZX} {a b : Expr} {ca cb : Nat} {fa fb : DD} {pos : Pos}
end
end DL
set_option maxRecDepth 100000
set_option maxHeartbeats 4000000
namespace DL
open PySem PySem.Spec PyProof.Rows L2 LamX
/-! ### a, b, c = x, y, z -/
theorem Res.fpk {B : Base} {K : PySem.W.Frag} {Z : ZX} {F' H' F1 H1 : Hp} {n n' : Nat} {σ : L2.St} {env env' : List Cell} {v : V} {c : Cell} (S : SOk B K Z F1 H1 n σ env) (r : Res B K F1 H1 n σ env v c) (T : SOk (DL.reb B F1 H1 σ env) K Z F' H' n' σ env') : ∀ b oc a, c = .o b oc → v = .ref a → fp H' a oc = fp H1 a oc := fun b oc a e1 e2 => by
  subst e1
  subst e2
  obtain ⟨⟨a2, e, h1, h2, _⟩, _, r3⟩ := r
  cases e
  refine fp_congr fun y hy => ?_
  obtain ⟨o, eo, po⟩ := h2.pl y hy
  obtain ⟨q1, q2⟩ := r3 _ _ _ rfl rfl y hy
  exact (S.aside T eo po q2 (h1 y hy) q1).1.1
theorem Apart.wait {B : Base} {K : PySem.W.Frag} {Z : ZX} {F' H' F1 H1 : Hp} {n n' : Nat} {σ : L2.St} {env env' : List Cell} {v w : V} {c c' : Cell} (S : SOk B K Z F1 H1 n σ env) (r : Res B K F1 H1 n σ env v c) (r2 : Res B K F1 H1 n σ env w c') (T : SOk (DL.reb B F1 H1 σ env) K Z F' H' n' σ env') (h : Apart H1 v c w c') : Apart H' v c w c' := fun b oc a b' oc' a' e1 e2 e3 e4 x hx hy => by
  rw [r.fpk S T b oc a e1 e2] at hx
  rw [r2.fpk S T b' oc' a' e3 e4] at hy
  exact h b oc a b' oc' a' e1 e2 e3 e4 x hx hy
def wPar3 (i j l : Nat) (fa fb fc : DE) : WS := fun D env => fa env fun r e1 => fb e1 fun r2 e2 => fc e2 fun r3 e3 => (okSet e3 i ∧ okSet (e3.set i r) j ∧ okSet ((e3.set i r).set j r2) l) ∧ D.nx (((e3.set i r).set j r2).set l r3)
end DL
set_option maxRecDepth 100000
set_option maxHeartbeats 4000000
namespace DL
open PySem PySem.Spec PyProof.Rows L2 LamX
/-! ### a name gives up what it owns -/
def dMov (j : Nat) : DE := fun env Q => match env[j]? with
  | some (.o false c) => Q (.o false c) (env.set j .un)
  | _ => False
section
variable {X : Cx} {Z : ZX} {x : Str} {p : Pos}
end
/-! ### x == [], x an own list -/
def dNilQ (f : DD) : DT := fun env Q => f env fun x e => match x with
  | .lst xs => (DV.lst xs).ok 60 = true ∧ Q (eqD (.lst xs) (.lst [])) e
  | _ => False
section
variable {X : Cx} {Z : ZX} {a : Expr} {ca : Nat} {fa : DD} {pos pos' : Pos}
end
/-! ### places within trees written: lists and dicts -/
def OV.setK : OV → DV → DV → Option OV
  | .k ks xs, y, z => y.key.bind fun k => if ks.length < LINE then some (if (ks.any fun k' => decide (k' = k)) = true then .k ks (List.zipWith (fun k' x => if k' = k then OV.d z else x) ks xs) else .k (ks ++ [k]) (xs ++ [.d z])) else none
  | _, _, _ => none
section
variable {K : PySem.W.Frag} {F H : Hp}
end
/-- what a place within a tree shows -/
def TxOk (X : Cx) (j : Nat) (fs : List (List Cell → Option DV)) (t : TE) : Prop :=
  ∀ {B : Base} {Z : ZX} {F H : Hp} {n : Nat} {σ : L2.St} {env : List Cell} {b : Bool} {T : OV} {ys : List DV} {p : List Nat} {s : OV}, SOk B X.K Z F H n σ env → env[j]? = some (.o b (.tr T)) → allS (fs.map fun f => f env) = some ys → T.res ys = some (p, s) →
    ∀ Q : VK, (∀ a w, σ[j]? = some (some (.ref a)) → valP H (.ref a) p = some w → OvOk X.K F H s w → Q w H) → t σ H Q
section
variable {X : Cx} {Z : ZX} {j : Nat} {fs : List (List Cell → Option DV)} {f : List Cell → Option DV} {B : Base} {F H : Hp} {n : Nat} {σ : L2.St} {env : List Cell} {v : V} {d : DV} {c : Cell} {t : TE} {p : L2.St → V → Prop}
end
end DL
set_option maxRecDepth 100000
set_option maxHeartbeats 4000000
namespace DL
open PySem PySem.Spec PyProof.Rows L2 LamX
/-! ### x[..][k] = e in a dict within a tree; x[..][k], x[..][i] = e, f -/
def wTputD (j : Nat) (fs : List (List Cell → Option DV)) (f : List Cell → Option DV) (fe : DD) : WS := fun D env => fe env fun d e1 => optP (treePut OV.setK e1 j fs f d) fun c => D.nx (e1.set j c)
def wTputKL (j : Nat) (fs1 : List (List Cell → Option DV)) (f1 : List Cell → Option DV) (fs2 : List (List Cell → Option DV)) (f2 : List Cell → Option DV) (fa fb : DD) : WS := fun D env => dTup (aCons fa (aCons fb aNil)) env fun d e1 => match d with
  | .tup [x, y] => optP (treePut OV.setK e1 j fs1 f1 x) fun c1 => optP (treePut OV.setL (e1.set j c1) j fs2 f2 y) fun c2 => D.nx ((e1.set j c1).set j c2)
  | _ => False
section
variable {X : Cx} {Z : ZX} {e x i x2 i2 a b : Expr} {c ca cb : Nat} {fe fa fb : DD} {j : Nat} {fs fs2 : List (List Cell → Option DV)} {f f2 : List Cell → Option DV} {pos pos' pos2 tp tp2 : Pos} {k k2 : Nat}
end
/-! ### {k: v, ..} with items owned -/
abbrev DPt := List Cell → (List (DV × OV) → List Cell → Prop) → Prop
def ptN : DPt := fun env Q => Q [] env
def ptC (fa : DD) (fb : DE) (g : DPt) : DPt := fun env Q => fa env fun x e1 => fb e1 fun r e2 => optP r.ov fun y => g e2 fun rs e3 => Q ((x, y) :: rs) e3
def keysOf : List (DV × OV) → Option (List Key)
  | [] => some []
  | (x, _) :: r => x.key.bind fun k => (keysOf r).map (k :: ·)
def dDispT (g : DPt) : DE := fun env Q => g env fun ps e => ps.length ≤ 15 ∧ optP (keysOf ps) fun ks => ks.Nodup ∧ Q (.o false (.tr (.k ks (ps.map (·.2))))) e
/-- results that wait, apart from each other -/
structure PendO (B : Base) (K : PySem.W.Frag) (F H : Hp) (σ : L2.St) (env : List Cell) (av : List V) (ad : List OV) : Prop where
  all : OvAll K F H ad av
  nd : (fpl H ad av).Nodup
  free : ∀ y ∈ fpl H ad av, Free B F H σ env y
section
variable {B : Base} {K : PySem.W.Frag} {Z Z' : ZX} {F F' H H' : Hp} {n n' : Nat} {σ σ' : L2.St} {env env' : List Cell} {av : List V} {ad : List OV}
theorem PendO.aside (p : PendO B K F H σ env av ad) (S : SOk B K Z F H n σ env) (T : SOk (DL.reb B F H σ env) K Z' F' H' n' σ' env') (x : Ext F F') : PendO B K F' H' σ' env' av ad := by
  have key : ∀ y ∈ fpl H ad av, (H' y = H y ∧ F' y = none) ∧ ∀ (i : Nat) (b' : Bool) (c' : OC) (a' : Addr), env'[i]? = some (.o b' c') → σ'[i]? = some (some (.ref a')) → y ∉ fp H' a' c' := fun y hy => by
    obtain ⟨o, eo, po⟩ := OvAll.pl _ _ p.all y hy
    obtain ⟨⟨q1, q2⟩, q3⟩ := p.free y hy
    exact S.aside T eo po q2 q1 q3
  have ef : fpl H' ad av = fpl H ad av := fpl_congr ad av fun y hy => (key y hy).1.1
  exact ⟨OvAll.mono x ad av (fun y hy => (key y hy).1.1) p.all, by rw [ef]; exact p.nd, by rw [ef]; exact fun y hy => ⟨⟨(key y hy).1.2, (p.free y hy).1.2⟩, (key y hy).2⟩⟩
/-- one more -/
theorem PendO.snoc {t : OV} {v : V} (p : PendO B K F H σ env av ad) (h : OvOk K F H t v) (nd : (fpv H t v).Nodup) (hf : ∀ y ∈ fpv H t v, Free B F H σ env y) (dj : ∀ y ∈ fpv H t v, y ∉ fpl H ad av) : PendO B K F H σ env (av ++ [v]) (ad ++ [t]) := by
  have ef := fpl_snoc (x := t) (v := v) p.all
  refine ⟨OvAll.snoc p.all h, ?_, ?_⟩
  · rw [ef]
    exact List.nodup_append.mpr ⟨p.nd, nd, fun x hx y hy z => by subst z; exact dj x hy hx⟩
  · rw [ef]
    intro y hy
    rcases List.mem_append.mp hy with hy | hy
    · exact p.free y hy
    · exact hf y hy
/-- one evaluated while others wait -/
theorem PendO.more {F1 H1 : Hp} {e1 : List Cell} {v : V} {c : Cell} {t : OV} (p : PendO B K F1 H1 σ e1 av ad) (S1 : SOk B K Z F1 H1 n σ e1) (T : SOk (DL.reb B F1 H1 σ e1) K Z' F H n' σ env) (x : Ext F1 F) (r : Res (DL.reb B F1 H1 σ e1) K F H n' σ env v c) (et : c.ov = some t) : PendO B K F H σ env (av ++ [v]) (ad ++ [t]) := by
  have p2 := p.aside S1 T x
  obtain ⟨g1, g2, g3⟩ := r.ov et
  refine p2.snoc g1 g2 (fun y hy => ⟨⟨(g3 y hy).1.1, S1.newAt (g3 y hy).1.2⟩, (g3 y hy).2⟩) fun y hy hz => ?_
  have ef : fpl H ad av = fpl H1 ad av := by
    refine fpl_congr ad av fun z hz => ?_
    obtain ⟨o, eo, po⟩ := OvAll.pl _ _ p.all z hz
    obtain ⟨⟨w1, w2⟩, w3⟩ := p.free z hz
    exact (S1.aside T eo po w2 w1 w3).1.1
  rw [ef] at hz
  obtain ⟨o, eo, _⟩ := OvAll.pl _ _ p.all y hz
  rcases (g3 y hy).1.2 with h1 | h1
  · have h1 : H1 y = none := h1
    rw [h1] at eo
    cases eo
  · obtain ⟨_, j, b, c, a, ej, aj, hf⟩ := of_mem_locs h1
    exact (p.free y hz).2 j b c a ej aj hf
end
/-- pairs, their items owned -/
structure PPt (X : Cx) (Z : ZX) (pos : Pos) (ks : List (Option Expr)) (vs : List Expr) (c : Nat) (g : DPt) : Prop where
  mono : MonoC g
  run : ∃ trs, PPs X pos ks vs trs ∧ ∀ (σ : L2.St) (H : Hp) (Q : List (V × V) → Hp → Prop) (av : List V) (ad : List OV), (∃ B F n env, n + c ≤ Z.M ∧ SOk B X.K Z F H n σ env ∧ PendO B X.K F H σ env av ad ∧ g env fun r e => ∀ (ps : List (V × V)) H' F', SOk B X.K Z F' H' (n + c) σ e → Ext F F' → ps.length = r.length →
    (∀ ks, keysOf r = some ks → ps.map (·.1) = ks.map kV) → PendO B X.K F' H' σ e (av ++ ps.map (·.2)) (ad ++ r.map (·.2)) → Q ps H') → tPairs trs σ H Q
section
variable {X : Cx} {Z : ZX} {pos : Pos} {k v : Expr} {ks : List (Option Expr)} {vs : List Expr} {ca cb c : Nat} {fa : DD} {fb : DE} {g : DPt}
end
end DL
set_option maxRecDepth 100000
set_option maxHeartbeats 4000000
namespace DL
open PySem PySem.Spec PyProof.Rows L2 LamX
/-! ### a dict is locked while a comprehension walks over its keys -/
def Base.lock (B : Base) (F1 H1 : Hp) (σ : L2.St) (env : List Cell) (d : Addr) (od : Obj) (u : HO) : Base := ⟨H1, F1, B.bor, locs H1 B.bor σ env, (d, od, u) :: B.lk, B.bs⟩
section
variable {B : Base} {K : PySem.W.Frag} {Z Z' : ZX} {F F2 H H2 : Hp} {n n' : Nat} {σ σ' : L2.St} {env env' : List Cell} {d : Addr} {od : Obj} {us : List (Key × V)} {x y : HO}
/-- locked or not -/
def Dk2 (od : Obj) (us : List (Key × V)) (x : HO) : Prop := x = .dK us ∨ x = .frz od (.dK us)
theorem Dk2.rd (hx : Dk2 od us x) (hy : Dk2 od us y) (hF : F d = some x) {a : Addr} {u : HO} (n : ntb u = true) (h : Rd F a u) : Rd (upd F d y) a u := by
  by_cases e : a = d
  · subst e
    have hu : u = .dK us := by
      rcases h with h | ⟨o, h⟩
      · rw [hF] at h
        cases h
        rcases hx with rfl | rfl
        · rfl
        · cases n
      · rw [hF] at h
        rcases hx with rfl | rfl <;> cases h
        rfl
    subst hu
    rcases hy with rfl | rfl
    · exact .inl upd_same
    · exact .inr ⟨od, upd_same⟩
  · rcases h with h | ⟨o, h⟩
    · exact .inl (by rw [upd_ne e]; exact h)
    · exact .inr ⟨o, by rw [upd_ne e]; exact h⟩
theorem Dk2.not (hx : Dk2 od us x) (hF : F d = some x) {a : Addr} {u : HO} (h : F a = some u) (nk : ∀ us, u ≠ .dK us) (nf : ∀ o v, u ≠ .frz o v) : upd F d y a = some u := by
  rw [upd_ne (by
    rintro rfl
    rw [hF] at h
    cases h
    rcases hx with rfl | rfl
    · exact nk _ rfl
    · exact nf _ _ rfl)]
  exact h
theorem Dk2.ext (hx : Dk2 od us x) (hy : Dk2 od us y) (hF : F d = some x) : Ext F (upd F d y) :=
  ⟨fun n h => hx.rd hy hF n h, fun h => hx.not hF h (fun _ z => by cases z) (fun _ _ z => by cases z), fun h => hx.not hF h (fun _ z => by cases z) (fun _ _ z => by cases z), fun h => hx.not hF h (fun _ z => by cases z) (fun _ _ z => by cases z)⟩
theorem Dk2.dget (hx : Dk2 od us x) (hy : Dk2 od us y) (hH : H d = some x) {a : Addr} {u : V} {o : Option V} (g : DGet H a u o) : DGet (upd H d y) a u o := by
  rcases g with ⟨kvs, k, h1, h2, h3⟩ | ⟨kvs, k, b, h1, h2, h4, h3⟩
  · exact .inl ⟨kvs, k, hx.rd hy hH rfl h1, h2, h3⟩
  · exact .inr ⟨kvs, k, b, hx.rd hy hH rfl h1, h2, hx.not hH h4 (fun _ z => by cases z) (fun _ _ z => by cases z), h3⟩
theorem offd (S : Core B K Z.T F H n σ env) (hF : F d = some x) {i : Nat} {b : Bool} {c : OC} {a : Addr} (e : env[i]? = some (.o b c)) (ea : σ[i]? = some (some (.ref a))) : ∀ y ∈ fp H a c, y ≠ d := fun y hy => by
  rintro rfl
  have := (S.ownAt e ea).1 y hy
  rw [hF] at this
  cases this
theorem SOk.lock (S : SOk B K Z F H n σ env) (hx : Dk2 od us x) (hF : F d = some x) : SOk (B.lock (upd F d (.frz od (.dK us))) (upd H d (.frz od (.dK us))) σ env d od (.dK us)) K Z.calm (upd F d (.frz od (.dK us))) (upd H d (.frz od (.dK us))) n σ env := by
  have hy : Dk2 od us (.frz od (.dK us)) := .inr rfl
  have hH := S.same _ _ hF
  have st := S.toCore.step (F' := upd F d (.frz od (.dK us))) (H' := upd H d (.frz od (.dK us))) (hx.ext hy hF) (Nat.le_refl _) fun i b c a ei si z hz => ⟨upd_ne (offd S.toCore hF ei si z hz), (upd_ne (offd S.toCore hF ei si z hz)).trans ((S.toCore.ownAt ei si).1 z hz)⟩
  refine ⟨⟨same_upd2 S.same, S.len, fun i c e => ?_, st.2, fun a o e _ _ => .inl e, fun _ _ _ _ => .inl rfl, fun a ha => ?_, fun a ha => (of_mem_locs ha).1, fun p hp => ?_, S.bs, fun _ h => h, tabs_keep S.tb fun b o e tc => ?_⟩, (fun p hp => (S.lnk.1 p hp).mono (hx.ext hy hF)), fun _ _ _ _ _ _ _ _ _ _ _ _ _ _ z => z⟩
  · obtain ⟨o, e1, h⟩ := st.1 i c e
    refine ⟨o, e1, ?_⟩
    cases c with
    | un => trivial
    | d x => exact h
    | o b c =>
      obtain ⟨a, e2, h1, h2, h3, h4⟩ := h
      subst e2
      refine ⟨a, rfl, h1, h2, h3, fun x hx => ?_⟩
      rcases mem_locs (bor := B.bor) e e1 hx with q | q
      · rcases h4 x hx with y | y | y
        · exact .inl y
        · have z := S.bd x q
          rw [y] at z
          cases z
        · exact absurd q (S.lb x y)
      · exact .inr (.inr q)
  · have h := S.dom a (S.bd a ha)
    show (upd H d (.frz od (.dK us)) a).isSome = true
    by_cases z : a = d
    · subst z; rw [upd_same]; rfl
    · rw [upd_ne z]; exact h
  · rcases List.mem_cons.mp hp with rfl | hp
    · exact upd_same
    · have q := S.lk p hp
      by_cases z : p.1 = d
      · rw [z, hF] at q
        rw [z, upd_same]
        rcases hx with rfl | rfl
        · cases q
        · exact q
      · rw [upd_ne z]
        exact q
  · rw [upd_ne (by
      rintro rfl
      rw [hH] at e
      cases e
      rcases hx with rfl | rfl <;> rcases tc with ⟨_, z⟩ | ⟨_, z⟩ <;> cases z)]
    exact e
theorem SOk.unlock (S : SOk B K Z F H n σ env) (hx : Dk2 od us x) (hF : F d = some x) (T : SOk (B.lock (upd F d (.frz od (.dK us))) (upd H d (.frz od (.dK us))) σ env d od (.dK us)) K Z' F2 H2 n' σ' env') (hT : Z'.T = Z.T) (xx : Ext (upd F d (.frz od (.dK us))) F2) (hn : n ≤ n') :
    SOk B K Z (upd F2 d x) (upd H2 d x) n' σ' env' ∧ Ext F (upd F2 d x) ∧ Ext F2 (upd F2 d x) ∧ (∀ {y : Addr}, NewAt (B.lock (upd F d (.frz od (.dK us))) (upd H d (.frz od (.dK us))) σ env d od (.dK us)) y → NewAt B y) ∧ F2 d = some (.frz od (.dK us)) := by
  have hy : Dk2 od us (.frz od (.dK us)) := .inr rfl
  have hH := S.same _ _ hF
  have h2 : F2 d = some (.frz od (.dK us)) := T.lk (d, od, .dK us) List.mem_cons_self
  have h2' := T.same _ _ h2
  have x3 := hy.ext hx h2
  have x13 : Ext F (upd F2 d x) := ((hx.ext hy hF).trans xx).trans x3
  have st := T.toCore.step (F' := upd F2 d x) (H' := upd H2 d x) x3 (Nat.le_refl _) fun i b c a ei si z hz => ⟨upd_ne (offd T.toCore h2 ei si z hz), (upd_ne (offd T.toCore h2 ei si z hz)).trans ((T.toCore.ownAt ei si).1 z hz)⟩
  have efp : ∀ {j : Nat} {b : Bool} {c : OC} {a : Addr}, env[j]? = some (.o b c) → σ[j]? = some (some (.ref a)) → fp (upd H d (.frz od (.dK us))) a c = fp H a c := fun {j b c a} ej aj => fp_congr fun z hz => upd_ne (offd S.toCore hF ej aj z hz)
  have back : ∀ z ∈ locs (upd H d (.frz od (.dK us))) B.bor σ env, B.H0 z = none ∨ z ∈ B.loc := fun z hz => by
    obtain ⟨nb, j, b, c, a, ej, aj, hf⟩ := of_mem_locs hz
    rw [efp ej aj] at hf
    rcases (S.toCore.ownAt ej aj).2.2.2 z hf with y | y
    · exact absurd y.2 nb
    · exact y
  have back2 : ∀ z, upd H d (.frz od (.dK us)) z = none → B.H0 z = none := fun z hz => S.fresh0 (by
    by_cases e : z = d
    · subst e; rw [upd_same] at hz; cases hz
    · rw [upd_ne e] at hz; exact hz)
  have up : ∀ z, z ≠ d → upd H d (.frz od (.dK us)) z = H z := fun z e => upd_ne e
  refine ⟨⟨⟨same_upd2 T.same, T.len, fun i c e => ?_, st.2, fun a o e hb hl => ?_, fun a e hb hl => ?_, S.bd, S.lb, fun p hp => ?_, T.bs, fun a e => ?_, ?_⟩, S.lnk.mono x13 hn⟩, x13, x3, fun {y} hz => hz.elim (fun h => .inl (back2 y h)) (back y), h2⟩
  · obtain ⟨o, e1, h⟩ := st.1 i c e
    refine ⟨o, e1, ?_⟩
    cases c with
    | un => trivial
    | d x => exact h
    | o b c =>
      obtain ⟨a, e2, h1, h2, h3, h4⟩ := h
      refine ⟨a, e2, h1, h2, h3, fun z hz => ?_⟩
      rcases h4 z hz with q | q | q
      · exact .inl q
      · exact .inr (.inl (back2 z q))
      · exact .inr (back z q)
  · have g := S.fr a o e hb hl
    by_cases z : a = d
    · subst z
      rw [upd_same, ← hH]
      exact g
    · rw [upd_ne z]
      obtain ⟨o1, e1⟩ := Option.isSome_iff_exists.mp g.isSome
      rw [e1] at g
      refine g.trans (T.fr a o1 ((up a z).trans e1) hb fun q => ?_)
      rcases back a q with w | w
      · rw [w] at e; cases e
      · exact hl w
  · by_cases z : a = d
    · subst z
      have g := S.ff a e hb hl
      unfold TF at g ⊢
      rw [upd_same, ← hF]
      exact g
    · have nl : a ∉ locs (upd H d (.frz od (.dK us))) B.bor σ env := fun q => by
        rcases back a q with w | w
        · rw [w] at e; cases e
        · exact hl w
      have hs := S.dom a e
      rcases T.ff a (by show (upd H d (.frz od (.dK us)) a).isSome = true; rw [up a z]; exact hs) hb nl with q | ⟨o', q, lx⟩
      · have q1 : F2 a = upd F d (.frz od (.dK us)) a := q
        rw [upd_ne z] at q1
        unfold TF
        rw [upd_ne z]
        exact (S.ff a e hb hl).imp (fun r => q1.trans r) id
      · obtain ⟨o, eo⟩ := Option.isSome_iff_exists.mp e
        have w : upd H d (.frz od (.dK us)) a = some o' := q
        rw [up a z] at w
        have g := S.fr a o eo hb hl
        rw [w] at g
        exact .inr ⟨o, eo, g.lax lx⟩
  · have q := S.lk p hp
    by_cases z : p.1 = d
    · rw [z, hF] at q
      rw [z, upd_same]
      exact q
    · rw [upd_ne z]
      exact T.lk p (List.mem_cons_of_mem _ hp)
  · have h := S.dom a e
    by_cases z : a = d
    · subst z; rw [upd_same]; rfl
    · rw [upd_ne z]
      exact T.dom a (by show (upd H d (.frz od (.dK us)) a).isSome = true; rw [up a z]; exact h)
  · rw [← hT]
    exact tabs_keep T.tb fun b o e tc => by
      rw [upd_ne (by
        rintro rfl
        rw [h2'] at e
        cases e
        rcases tc with ⟨_, z⟩ | ⟨_, z⟩ <;> cases z)]
      exact e
/-- a result behind the lock -/
theorem Res.unlock {v : V} {acc : List DV} {T0 : Base} (r : Res T0 K F2 H2 n' σ' env' v (.o false (.l acc))) (hy : Dk2 od us y) (h2 : F2 d = some y) (x3 : Ext F2 (upd F2 d x)) (hn : ∀ {z : Addr}, NewAt T0 z → NewAt B z)
    (S2 : Core T0 K Z.T F2 H2 n' σ' env') : Res B K (upd F2 d x) (upd H2 d x) n' σ' env' v (.o false (.l acc)) := by
  obtain ⟨⟨a, e, h1, ⟨vs, g1, g2⟩, _⟩, _, h3⟩ := r
  cases e
  have na : a ≠ d := by
    rintro rfl
    have := h1 a (List.mem_singleton.mpr rfl)
    rw [h2] at this
    cases this
  refine Res.mk (fun z hz => ?_) ⟨vs, (upd_ne na).trans g1, g2.mono x3⟩ fun z hz => ⟨fun i b' c' a' ei si hw => ?_, ?_⟩
  · cases List.mem_singleton.mp hz
    rw [upd_ne na]
    exact h1 a (List.mem_singleton.mpr rfl)
  · cases List.mem_singleton.mp hz
    rw [fp_congr fun w hw => upd_ne (offd S2 h2 ei si w hw)] at hw
    exact (h3 _ _ _ rfl rfl a (List.mem_singleton.mpr rfl)).1 i b' c' a' ei si hw
  · cases List.mem_singleton.mp hz
    exact hn (h3 _ _ _ rfl rfl a (List.mem_singleton.mpr rfl)).2
end
def kyD : Key → DV
  | .inl i => .int i
  | .inr s => .str s
theorem pe_or {X : Cx} {e : Expr} {t1 t2 : TE} (h1 : PE X e t1) (h2 : PE X e t2) : PE X e (fun σ H Q => t1 σ H Q ∨ t2 σ H Q) := ⟨fun pins s σ H Q I h => h.elim (h1.run pins s σ H Q I) (h2.run pins s σ H Q I)⟩
def dLcK (j : Nat) (f0 : List Cell → Option DV) (vs : List Nat) (g : DG) (t : DT) (f : DD) : DE := fun env Q => match env[j]? with
  | some (.d x) => optP (f0 env) fun y => match lookD x y with
    | some (some (.dk kvs)) => (noOwn env vs ∧ kvs.length ≤ LINE) ∧ goLc vs g t f (fun acc e' => Q (.o false (.l acc)) (backD env e' vs)) (kvs.map fun p => kyD p.1) [] env
    | _ => False
  | _ => False
section
variable {X : Cx} {Z : ZX} {elt tg i : Expr} {ifs : List Expr} {scope : Scope} {own : List (Str × Nat)} {pos p1 p2 : Pos} {ct ce : Nat} {js : List Nat} {g : DG} {t : DT} {f : DD} {f0 : List Cell → Option DV} {x : Str}
end
end DL
set_option maxRecDepth 100000
set_option maxHeartbeats 4000000
namespace DL
open PySem PySem.Spec PyProof.Rows L2 LamX
/-! ### an own list lent to a reading that keeps nothing -/
section
variable {B : Base} {K : PySem.W.Frag} {Z : ZX} {Tz : List (Addr × Str)} {F F2 H H2 : Hp} {n m : Nat} {σ σ' : L2.St} {env e' : List Cell} {a : Addr} {vs : List V} {xs : List DV}
end
def dLoan (j : Nat) (f : DD) : DD := fun env Q => match env[j]? with
  | some (.o false (.l xs)) => f ((hide env).set j (.d (.lst xs))) fun d _ => match d with
    | .int i => Q (.int i) env
    | _ => False
  | _ => False
/-! ### a, b, c = x, y, z by a tuple -/
end DL
set_option maxRecDepth 100000
set_option maxHeartbeats 4000000
namespace DL
open PySem PySem.Spec PyProof.Rows L2 LamX
/-! ### a part of a list within a tree -/
def xAdd (f g : List Cell → Option DV) (env : List Cell) : Option DV := match f env, g env with
  | some (.int i), some (.int j) => some (.int (i + j))
  | _, _ => none
section
variable {X : Cx} {Z : ZX} {a b e : Expr} {f g : List Cell → Option DV} {pos p2 : Pos} {j : Nat} {fs : List (List Cell → Option DV)}
def POi (X : Cx) (e : Option Expr) (f : List Cell → Option (Option Int)) : Prop := ∃ p : L2.St → Option Int → Prop, PO X e (fun σ H Q => ∃ v, p σ v ∧ Q v H) ∧
  ∀ {B : Base} {Z : ZX} {F H : Hp} {n : Nat} {σ : L2.St} {env : List Cell} {d : Option Int}, SOk B X.K Z F H n σ env → f env = some d → p σ d
def xoN (_ : List Cell) : Option (Option Int) := some none
def xoS (f : List Cell → Option DV) (env : List Cell) : Option (Option Int) := match f env with
  | some (.int i) => some (some i)
  | _ => none
def dSlT (j : Nat) (fs : List (List Cell → Option DV)) (l u : List Cell → Option (Option Int)) : DE := fun env Q => optP ((treeAt env j fs).bind OV.flat) fun x => optP (l env) fun lo => optP (u env) fun hi => gSl x lo hi fun c => Q c env
end
/-! ### isinstance(x, C), x an object of C -/
structure IsiC (K : PySem.W.Frag) (C : Addr) : Prop where
  cls : Cls K C
  fi : PySem.W.findIn K (.ref C) "__class__" = some (some (.builtin "object.__class__"))
  gt : PySem.W.specialIn K (.builtin "object.__class__") "__get__" = some (some (.builtin "getset_descriptor.__get__"))
  tk : PySem.W.takesIn K (.builtin "object.__class__") = some true
  mr : PySem.W.mroIn K C (.type "object") = some true
def relI (cs : List Addr) : Rel := fun x C => match x with
  | .ins C' _ => if C' = C ∧ C ∈ cs then some true else none
  | _ => none
end DL
set_option maxRecDepth 100000
set_option maxHeartbeats 4000000
namespace DL
open PySem PySem.Spec PyProof.Rows L2 LamX
/-! ### a field as a target -/
def gAttr (K : PySem.W.Frag) (f : Str) (to : TE) : TG := fun v σ H Q => to σ H fun x H1 => ∃ a C dx fs, x = .ref a ∧ H1 a = some (.ins C dx fs) ∧ Cls K C ∧ NoAttr K C f ∧ fs.length < 1000 ∧ Q σ (upd H1 a (.ins C dx (putF f v fs)))
def wAsgNF (i j : Nat) (C0 : Addr) (f : Str) (fe : DD) : WS := fun D env => fe env fun d e => match d with
  | .tup [x, y] => okSet e i ∧ ∃ b fs, (e.set i (.d x))[j]? = some (.o b (.ins C0 fs)) ∧ fs.length ≤ 900 ∧ D.nx ((e.set i (.d x)).set j (.o b (.ins C0 (putFD f y fs))))
  | _ => False
section
variable {X : Cx} {Z : ZX} {ee : Expr} {ca : Nat} {fe : DD}
end
end DL
set_option maxRecDepth 100000
set_option maxHeartbeats 4000000
namespace DL
open PySem PySem.Spec PyProof.Rows L2 LamX
/-! ### for k in d, d a dict by data -/
def onlyNx (D : EndsD) : EndsD := ⟨D.nx, fun _ _ => False, fun _ => False, fun _ => False⟩
def wForK (j : Nat) (g : DG) (w : WS) : WS := fun D env => match env[j]? with
  | some (.d (.dk kvs)) => kvs.length ≤ LINE ∧ goFor g w (onlyNx D) (kvs.map fun p => kyD p.1) env
  | _ => False
theorem ps_or {X : Cx} {st : Stmt} {t1 t2 : TS} (h1 : PS X st t1) (h2 : PS X st t2) : PS X st (fun D σ H => t1 D σ H ∨ t2 D σ H) := ⟨fun pins s σ H D I h => h.elim (h1.run pins s σ H D I) (h2.run pins s σ H D I)⟩
section
variable {X : Cx} {Z : ZX} {tg : Expr} {body : List Stmt} {cb : Nat} {js : List Nat} {g : DG} {w : WS} {pos p1 : Pos} {x : Str}
end
end DL
set_option maxRecDepth 100000
set_option maxHeartbeats 4000000
namespace DL
open PySem PySem.Spec PyProof.Rows L2 LamX
/-! ### x.append(y), y owned: it becomes a kid of x -/
section
variable {B : Base} {K : PySem.W.Frag} {Z : ZX} {F F' H H' : Hp} {n n' : Nat} {σ : L2.St} {env : List Cell} {a : Addr}
end
/-- the kids of an owned list -/
def lkids (env : List Cell) (j : Nat) : Option (Bool × List OV) := match env[j]? with
  | some (.o b c) => (match c.ov with
    | some (.l xs) => some (b, xs)
    | _ => none)
  | _ => none
def dAppendT (j : Nat) (f : DE) : DE := fun env Q => (lkids env j).isSome = true ∧ f env fun r e => match lkids e j, r.ov with
  | some (b, xs), some t => xs.length < LINE ∧ Q (.d .non) (e.set j (.o b (.tr (.l (xs ++ [t])))))
  | _, _ => False
section
variable {X : Cx} {Z : ZX} {x : Str} {e : Expr} {c : Nat} {f : DE} {p apos cpos : Pos}
end
end DL
set_option maxRecDepth 100000
set_option maxHeartbeats 2000000
namespace DL
open PySem PySem.Spec PyProof.Rows L2 LamX
/-! ### dict(d): a copy that is owned -/
def gDict : DV → (Cell → Prop) → Prop := fun x Q => match x with
  | .dk kvs => Q (.o false (.k kvs))
  | _ => False
section
variable {X : Cx} {Z : ZX} {a : Expr} {ca : Nat} {f : DD} {p pos : Pos}
end
/-! ### a if c else b, asked for its truth -/
section
variable {X : Cx} {Z : ZX} {c a b : Expr} {pos : Pos}
def dIfT (tc ta tb : DT) : DT := fun env Q => tc env fun k e => if k = true then ta e Q else tb e Q
end
end DL
set_option maxRecDepth 100000
set_option maxHeartbeats 4000000
namespace DL
open PySem PySem.Spec PyProof.Rows L2 LamX
/-! ### why(lambda: ..), the pen of slot j drawn from within -/
def hideP (j : Nat) (env : List Cell) : List Cell := (hide env).set j (.o true .pen)
def lamBP (F H : Hp) (j : Nat) (a : Addr) : Base := ⟨H, F, [a], [], [], [(j, a)]⟩
section
variable {B : Base} {K : PySem.W.Frag} {Z : ZX} {Tz : List (Addr × Str)} {F F' H H' : Hp} {n m j : Nat} {σ σ' : L2.St} {env e' : List Cell} {b : Bool} {a : Addr}
end
def dWhyP (j : Nat) (wy : Addr → List (Str × DV) → Option DV) (nv : DV → DV) (f : YD → DD) : DE := fun env Q => (∃ b, env[j]? = some (.o b .pen)) ∧ f (fun C fs e => e[j]? = some (.o true .pen) ∧ optP (wy C fs) fun x => Q (.d x) env) (hideP j env) fun d e => e[j]? = some (.o true .pen) ∧ Q (.d (nv d)) env
/-! ### readings of bodies grow, for lists, tuples, binary operators -/
end DL
set_option maxRecDepth 100000
set_option maxHeartbeats 4000000
namespace DL
open PySem PySem.Spec PyProof.Rows L2 LamX
/-! ### {k: v for ..}, keys ints or texts -/
def kOf : DV → Option Key
  | .int i => some (.inl i)
  | .str s => some (.inr s)
  | _ => none
def goDc (vs : List Nat) (g : DG) (t : DT) (fk f : DD) (Q : List (Key × DV) → List Cell → Prop) : List DV → List (Key × DV) → List Cell → Prop
  | [], acc, env => Q acc env
  | d :: ds, acc, env => g d (wipeD env vs) fun e2 => t e2 fun k e3 => if k = true then fk e3 fun kd e4 => f e4 fun y e5 => ∃ key, kOf kd = some key ∧ goDc vs g t fk f Q ds (putD acc key y) e5 else goDc vs g t fk f Q ds acc e3
def dDc (vs : List Nat) (i : DI) (g : DG) (t : DT) (fk f : DD) : DE := fun env Q => i env fun ds e => noOwn e vs ∧ goDc vs g t fk f (fun acc e' => Q (.o false (.k acc)) (backD e e' vs)) ds [] e
section
variable {B : Base} {K : PySem.W.Frag} {Z Z' : ZX} {F F2 H H2 : Hp} {n n' : Nat} {σ σ' : L2.St} {env env' : List Cell} {d : Addr} {od : Obj} {us : List (Key × V)} {x y : HO}
end
section
variable {X : Cx} {Z : ZX} {kx vx tg iter : Expr} {ifs : List Expr} {scope : Scope} {own : List (Str × Nat)} {pos : Pos} {ci ct ck ce : Nat} {i : DI} {js : List Nat} {g : DG} {t : DT} {fk f : DD}
end
def dDcK (j : Nat) (vs : List Nat) (g : DG) (t : DT) (fk f : DD) : DE := fun env Q => match env[j]? with
  | some (.d (.dk kvs)) => (noOwn env vs ∧ kvs.length ≤ LINE) ∧ goDc vs g t fk f (fun acc e' => Q (.o false (.k acc)) (backD env e' vs)) (kvs.map fun p => kyD p.1) [] env
  | _ => False
def dLcKN (j : Nat) (vs : List Nat) (g : DG) (t : DT) (f : DD) : DE := fun env Q => match env[j]? with
  | some (.d (.dk kvs)) => (noOwn env vs ∧ kvs.length ≤ LINE) ∧ goLc vs g t f (fun acc e' => Q (.o false (.l acc)) (backD env e' vs)) (kvs.map fun p => kyD p.1) [] env
  | _ => False
section
variable {X : Cx} {Z : ZX} {kx elt tg : Expr} {ifs : List Expr} {scope : Scope} {own : List (Str × Nat)} {pos p1 : Pos} {ct ck ce : Nat} {js : List Nat} {g : DG} {t : DT} {fk f : DD} {x : Str}
end
end DL
set_option maxRecDepth 100000
set_option maxHeartbeats 4000000
namespace DL
open PySem PySem.Spec PyProof.Rows L2 LamX
/-! ### an own list of lists lent, with the pen, to a reading that gives a list of numbers -/
def cut (F : Hp) (a : Addr) : Hp := fun b => if b = a then none else F b
section
variable {B : Base} {K : PySem.W.Frag} {Z : ZX} {Tz : List (Addr × Str)} {F F2 H H2 : Hp} {n m j jp : Nat} {σ σ' : L2.St} {env e' : List Cell} {a pa : Addr} {vs : List V} {xs : List DV} {b : Bool}
end
def dLoanR (j jp : Nat) (f : DD) : DD := fun env Q => match env[j]? with
  | some (.o false (.l (.lst ys :: zs))) => ((∃ b, env[jp]? = some (.o b .pen)) ∧ j ≠ jp) ∧ f ((hideP jp env).set j (.d (.lst (.lst ys :: zs)))) fun d e => (e[jp]? = some (.o true .pen) ∧ ∃ ns : List Int, d = .lst (ns.map .int)) ∧ Q d env
  | _ => False
/-! ### x != [], x an own list -/
def dNilN (f : DD) : DT := fun env Q => f env fun x e => match x with
  | .lst xs => (DV.lst xs).ok 60 = true ∧ Q (!eqD (.lst xs) (.lst [])) e
  | _ => False
section
variable {X : Cx} {Z : ZX} {a : Expr} {ca : Nat} {fa : DD} {pos pos' : Pos}
end
end DL
set_option maxRecDepth 100000
set_option maxHeartbeats 2000000
namespace DL
open PySem PySem.Spec PyProof.Rows L2
/-- a def with defaults that no call needs -/
structure FunE (K : PySem.W.Frag) (x qual : Str) (st : Stmt) (f : Addr) (fd : FuncData) : Prop where
  ex : ∃ (oc : Value) (od : Option Addr) (dV kV doc pm : Value) (an : Option Addr) (cdv ct : Value) (osl : Array (Option Value)),
    fd = PySem.W.fnOf x qual (defArgs st) (defBody st) (defScope st) dV kV doc pm an cdv ct ∧ K.lookup f = some ⟨oc, od, .func fd, osl⟩ ∧ PySem.W.codeIn K cdv qual = true
  kp : PySem.W.keepIn K (.ref f) = true
section
variable {P : Program} {w : World} {K : PySem.W.Frag} {mg : Str → Option Value} {base : Heap}
end
end DL
set_option maxRecDepth 100000
set_option maxHeartbeats 4000000
namespace DL
open PySem PySem.Spec PyProof.Rows L2 LamX
/-! ### x in o, by an own __contains__ -/
def rInO (C : Addr) (neg : Bool) (sp : Sp) (E : XK) : R2 := fun x y H Q => ∃ a dx fs, y = .ref a ∧ H a = some (.ins C dx fs) ∧ sp [y, x] H (fun v H' => ∃ k, v = .bl k ∧ Q (.bl (if neg then !k else k)) H') E
section
variable {X : Cx} {Z : ZX} {k : Nat} {C f : Addr} {fd : FuncData} {ps : List Str} {sp : Sp} {E : XK}
end
def dInO (neg : Bool) (C : Addr) (con : Con) (G : Addr → List (Str × DV) → List Cell → Prop) (fa fb : DD) : DD := fun env Q => fa env fun x e1 => fb e1 fun y e2 => (match y with
  | .ins C' _ => C' = C
  | _ => False) ∧ con [.d y, .d x] (fun r _ => match r with
    | .d (.bl k) => Q (.bl (if neg then !k else k)) e2
    | _ => False) fun C' fs _ => G C' fs e2
section
variable {X : Cx} {Z : ZX} {k : Nat} {C f : Addr} {fd : FuncData} {ps : List Str} {con : Con} {cf ca cb : Nat} {op : CmpOp} {neg : Bool} {a b : Expr} {fa fb : DD} {pos : Pos}
end
end DL
set_option maxRecDepth 100000
set_option maxHeartbeats 4000000
namespace DL
open PySem PySem.Spec PyProof.Rows L2 LamX
/-! ### y = None; try: y = e; except ..: y = ..; return y -/
def wTryS (j : Nat) (wy : Addr → List (Str × DV) → Option DV) (f : YD → DD) : WS := fun D env => j < env.length ∧ f (fun C fs _ => optP (wy C fs) fun x => D.rt (.d x) env) ((hide env).set j (.d .non)) fun d _ => D.rt (.d d) env
end DL
set_option maxRecDepth 100000
set_option maxHeartbeats 4000000
namespace DL
open PySem PySem.Spec PyProof.Rows L2 LamX
end DL
set_option maxRecDepth 100000
set_option maxHeartbeats 4000000
namespace DL
open PySem PySem.Spec PyProof.Rows L2 LamX
/-! ### a def that asks for repr: it is called where no repr runs -/
structure FnOkG (P : Program) (w : World) (K : PySem.W.Frag) (mg : Str → Option Value) (base : Heap) (k : Nat) (f : Addr) (fd : FuncData) (ps : List Str) (sp : Sp) : Prop where
  len : ∀ vs H Q E, sp vs H Q E → vs.length = ps.length
  run : ∀ (A : Around) (outer : List Env) (s : Shared) (H : Hp) (args : Args) (us : List Value) (vs : List V) (Q : VK) (E : XK), A.guards = some [] → Room k A → Env0 P w K mg base A outer s H → BindsTo s fd args (ps.zip us) → Vals vs us → sp vs H Q E →
    codeAny (model P w) A (.call (.ref f) args) (CR (L2.CX P w) outer P w H s Q E) s
section
variable {P : Program} {w : World} {K : PySem.W.Frag} {mg : Str → Option Value} {base : Heap}
end
section
variable {X : Cx} {Z : ZX} {k : Nat} {f : Addr} {x : Str} {fd : FuncData} {ps : List Str} {con : Con} {cf ca : Nat} {p pos : Pos} {e : Expr} {es : List Expr} {g : DB} {sp : Sp} {E : XK} {t : TA}
end
end DL
set_option maxRecDepth 100000
set_option maxHeartbeats 4000000
namespace DL
open PySem PySem.Spec PyProof.Rows L2 LamX
/-! ### name = {k: v for ..} -/
section
variable {X : Cx} {Z : ZX}
end
section
variable {X : Cx} {Z : ZX} {kx vx tg iter : Expr} {ifs : List Expr} {scope : Scope} {own : List (Str × Nat)} {pos : Pos} {ci ct ck ce : Nat} {i : DI} {js : List Nat} {g : DG} {t : DT} {fk f : DD}
end
end DL
set_option maxRecDepth 100000
set_option maxHeartbeats 4000000
namespace DL
open PySem PySem.Spec PyProof.Rows L2 LamX
/-! ### a text so many times -/
def rMulS : R2 := fun x y H Q => ∃ i k, x = .str i ∧ y = .int k ∧ MulOk i k ∧ Q (.str (Txt.mul i k)) H
def gMulS : DV → DV → (Cell → Prop) → Prop := fun x y Q => match x, y with
  | .str i, .int k => MulOk i k ∧ Q (.d (.str (Txt.mul i k)))
  | _, _ => False
end DL
set_option maxRecDepth 100000
set_option maxHeartbeats 4000000
namespace DL
open PySem PySem.Spec PyProof.Rows L2 LamX
theorem isiB_ok {K : PySem.W.Frag} {C : Addr} (c : Cls K C) (h : isiB K C = true) : IsiC K C := by
  obtain ⟨h1, h⟩ := and_t h
  obtain ⟨h2, h⟩ := and_t h
  obtain ⟨h3, h4⟩ := and_t h
  exact ⟨c, He.eqO_ok h1, He.eqO_ok h2, of_decide_eq_true h3, of_decide_eq_true h4⟩
end DL
set_option maxRecDepth 100000
set_option maxHeartbeats 4000000
namespace DL
open PySem PySem.Spec PyProof.Rows L2 LamX
/-! ### isinstance(x, C), x of any kind; x == y by an own __eq__ -/
theorem sub_no {K : PySem.W.Frag} {C : Addr} {x : DV} {T : String} (h : tyNm x = some T) : PySem.W.subIn K (.type T) (.ref C) = some false := by
  cases x <;> first | (cases h; done) | (cases h; rfl)
def relN (cs : List Addr) : Rel := fun x C => match x with
  | .ins C' _ => if C' = C ∧ C ∈ cs then some true else none
  | _ => if (tyNm x).isSome = true ∧ C ∈ cs then some false else none
theorem relN_ok {K : PySem.W.Frag} {cs : List Addr} (hc : ∀ C ∈ cs, IsiC K C ∧ nclB K C = true) : RelOk K (relN cs) := fun x C b e v F H s h => by
  have base : ∀ T, tyNm x = some T → C ∈ cs → b = false → ∃ t, TyX K H v t ∧ PySem.W.kitOne K t (.ref C) = some b := fun T eT m eb => by
    refine ⟨_, tyX_of s h eT, ?_⟩
    have n := (hc C m).2
    unfold nclB at n
    unfold PySem.W.kitOne
    rw [if_neg (by intro z; cases beq_iff_eq.mp z)]
    unfold PySem.W.kitCls
    dsimp only
    rw [if_pos n, eb]
    exact sub_no eT
  unfold relN at e
  cases x with
  | ins C' fs =>
    dsimp only at e
    split at e
    · rename_i c
      obtain ⟨c1, c2⟩ := c
      subst c1
      cases e
      cases h with
      | ins h1 h2 h3 =>
        have I := (hc _ c2).1
        exact ⟨.ref C', .base (.ins (s _ _ h1) I.cls I.fi I.gt I.tk I.mr), by unfold PySem.W.kitOne; rw [if_pos]; exact beq_self_eq_true _⟩
    · cases e
  | _ =>
    dsimp only at e
    split at e
    · rename_i c
      obtain ⟨c1, c2⟩ := c
      obtain ⟨T, eT⟩ := Option.isSome_iff_exists.mp c1
      cases e
      exact base T eT c2 rfl
    · cases e
theorem isi_insN {C : Addr} {cs : List Addr} {fs : List (Str × DV)} (h : C ∈ cs) : isiD (relN cs) (.ins C fs) (.ref C) = some true := by
  show (if C = C ∧ C ∈ cs then some true else none) = some true
  rw [if_pos ⟨rfl, h⟩]
end DL
set_option maxRecDepth 100000
set_option maxHeartbeats 4000000
namespace DL
open PySem PySem.Spec PyProof.Rows L2 LamX
/-! ### x == y by an own __eq__ -/
/-- the other one: an object of the same class, or of a builtin type -/
def othD (C : Addr) : DV → Prop
  | .ins C' _ => C' = C
  | y => (tyNm y).isSome = true
def rEqO (C : Addr) (sp : Sp) (E : XK) (K : PySem.W.Frag) : R2 := fun x y H Q => (∃ a dx fs, x = .ref a ∧ H a = some (.ins C dx fs)) ∧ (∃ t, TyX K H y t ∧ PySem.W.notFirst K C t = true) ∧ sp [x, y] H (fun v H' => ∃ k, v = .bl k ∧ Q (.bl k) H') E
section
variable {X : Cx} {Z : ZX} {k : Nat} {C f : Addr} {fd : FuncData} {ps : List Str} {sp : Sp} {E : XK}
end
def dEqO (C : Addr) (con : Con) (G : Addr → List (Str × DV) → List Cell → Prop) (fa fb : DD) : DD := fun env Q => fa env fun x e1 => fb e1 fun y e2 => ((match x with
  | .ins C' _ => C' = C
  | _ => False) ∧ othD C y) ∧ con [.d x, .d y] (fun r _ => match r with
    | .d (.bl k) => Q (.bl k) e2
    | _ => False) fun C' fs _ => G C' fs e2
section
variable {X : Cx} {Z : ZX} {k : Nat} {C f : Addr} {fd : FuncData} {ps : List Str} {con : Con} {cf ca cb : Nat} {a b : Expr} {fa fb : DD} {pos : Pos}
end
end DL
set_option maxRecDepth 100000
set_option maxHeartbeats 4000000
namespace DL
open PySem PySem.Spec PyProof.Rows L2 LamX
/-! ### for k in x[i], x[i] a dict by data -/
def wForKX (j : Nat) (f0 : List Cell → Option DV) (g : DG) (w : WS) : WS := fun D env => match env[j]? with
  | some (.d x) => optP (f0 env) fun y => match lookD x y with
    | some (some (.dk kvs)) => kvs.length ≤ LINE ∧ goFor g w (onlyNx D) (kvs.map fun p => kyD p.1) env
    | _ => False
  | _ => False
section
variable {X : Cx} {Z : ZX} {tg i : Expr} {body : List Stmt} {cb : Nat} {js : List Nat} {g : DG} {w : WS} {pos p1 p2 : Pos} {x : Str} {f0 : List Cell → Option DV}
end
end DL
set_option maxRecDepth 100000
set_option maxHeartbeats 4000000
namespace DL
open PySem PySem.Spec PyProof.Rows L2 LamX
/-! ### name = [f for k in x[i]], x[i] a dict by data -/
section
variable {X : Cx} {Z : ZX} {elt tg i : Expr} {ifs : List Expr} {scope : Scope} {own : List (Str × Nat)} {pos p1 p2 : Pos} {ct ce : Nat} {js : List Nat} {g : DG} {t : DT} {f : DD} {f0 : List Cell → Option DV} {x : Str}
end
end DL
set_option maxRecDepth 100000
set_option maxHeartbeats 4000000
namespace DL
open PySem PySem.Spec PyProof.Rows L2 LamX
end DL
set_option maxRecDepth 100000
set_option maxHeartbeats 4000000
namespace DL
open PySem PySem.Spec PyProof.Rows L2 LamX
/-! ### a dict with tuples as keys is locked while a loop walks over it -/
section
variable {B : Base} {K : PySem.W.Frag} {Z Z' : ZX} {F F2 H H2 : Hp} {n n' : Nat} {σ σ' : L2.St} {env env' : List Cell} {d : Addr} {od : Obj} {us : List (List Key × V)} {x y : HO}
/-- locked or not -/
def Dt2 (od : Obj) (us : List (List Key × V)) (x : HO) : Prop := x = .dT us ∨ x = .frz od (.dT us)
theorem Dt2.rd (hx : Dt2 od us x) (hy : Dt2 od us y) (hF : F d = some x) {a : Addr} {u : HO} (n : ntb u = true) (h : Rd F a u) : Rd (upd F d y) a u := by
  by_cases e : a = d
  · subst e
    have hu : u = .dT us := by
      rcases h with h | ⟨o, h⟩
      · rw [hF] at h
        cases h
        rcases hx with rfl | rfl
        · rfl
        · cases n
      · rw [hF] at h
        rcases hx with rfl | rfl <;> cases h
        rfl
    subst hu
    rcases hy with rfl | rfl
    · exact .inl upd_same
    · exact .inr ⟨od, upd_same⟩
  · rcases h with h | ⟨o, h⟩
    · exact .inl (by rw [upd_ne e]; exact h)
    · exact .inr ⟨o, by rw [upd_ne e]; exact h⟩
theorem Dt2.not (hx : Dt2 od us x) (hF : F d = some x) {a : Addr} {u : HO} (h : F a = some u) (nk : ∀ us, u ≠ .dT us) (nf : ∀ o v, u ≠ .frz o v) : upd F d y a = some u := by
  rw [upd_ne (by
    rintro rfl
    rw [hF] at h
    cases h
    rcases hx with rfl | rfl
    · exact nk _ rfl
    · exact nf _ _ rfl)]
  exact h
theorem Dt2.ext (hx : Dt2 od us x) (hy : Dt2 od us y) (hF : F d = some x) : Ext F (upd F d y) :=
  ⟨fun n h => hx.rd hy hF n h, fun h => hx.not hF h (fun _ z => by cases z) (fun _ _ z => by cases z), fun h => hx.not hF h (fun _ z => by cases z) (fun _ _ z => by cases z), fun h => hx.not hF h (fun _ z => by cases z) (fun _ _ z => by cases z)⟩
theorem Dt2.dget (hx : Dt2 od us x) (hy : Dt2 od us y) (hH : H d = some x) {a : Addr} {u : V} {o : Option V} (g : DGet H a u o) : DGet (upd H d y) a u o := by
  rcases g with ⟨kvs, k, h1, h2, h3⟩ | ⟨kvs, k, b, h1, h2, h4, h3⟩
  · exact .inl ⟨kvs, k, hx.rd hy hH rfl h1, h2, h3⟩
  · exact .inr ⟨kvs, k, b, hx.rd hy hH rfl h1, h2, hx.not hH h4 (fun _ z => by cases z) (fun _ _ z => by cases z), h3⟩
theorem SOk.lockT (S : SOk B K Z F H n σ env) (hx : Dt2 od us x) (hF : F d = some x) : SOk (B.lock (upd F d (.frz od (.dT us))) (upd H d (.frz od (.dT us))) σ env d od (.dT us)) K Z.calm (upd F d (.frz od (.dT us))) (upd H d (.frz od (.dT us))) n σ env := by
  have hy : Dt2 od us (.frz od (.dT us)) := .inr rfl
  have hH := S.same _ _ hF
  have st := S.toCore.step (F' := upd F d (.frz od (.dT us))) (H' := upd H d (.frz od (.dT us))) (hx.ext hy hF) (Nat.le_refl _) fun i b c a ei si z hz => ⟨upd_ne (offd S.toCore hF ei si z hz), (upd_ne (offd S.toCore hF ei si z hz)).trans ((S.toCore.ownAt ei si).1 z hz)⟩
  refine ⟨⟨same_upd2 S.same, S.len, fun i c e => ?_, st.2, fun a o e _ _ => .inl e, fun _ _ _ _ => .inl rfl, fun a ha => ?_, fun a ha => (of_mem_locs ha).1, fun p hp => ?_, S.bs, fun _ h => h, tabs_keep S.tb fun b o e tc => ?_⟩, (fun p hp => (S.lnk.1 p hp).mono (hx.ext hy hF)), fun _ _ _ _ _ _ _ _ _ _ _ _ _ _ z => z⟩
  · obtain ⟨o, e1, h⟩ := st.1 i c e
    refine ⟨o, e1, ?_⟩
    cases c with
    | un => trivial
    | d x => exact h
    | o b c =>
      obtain ⟨a, e2, h1, h2, h3, h4⟩ := h
      subst e2
      refine ⟨a, rfl, h1, h2, h3, fun x hx => ?_⟩
      rcases mem_locs (bor := B.bor) e e1 hx with q | q
      · rcases h4 x hx with y | y | y
        · exact .inl y
        · have z := S.bd x q
          rw [y] at z
          cases z
        · exact absurd q (S.lb x y)
      · exact .inr (.inr q)
  · have h := S.dom a (S.bd a ha)
    show (upd H d (.frz od (.dT us)) a).isSome = true
    by_cases z : a = d
    · subst z; rw [upd_same]; rfl
    · rw [upd_ne z]; exact h
  · rcases List.mem_cons.mp hp with rfl | hp
    · exact upd_same
    · have q := S.lk p hp
      by_cases z : p.1 = d
      · rw [z, hF] at q
        rw [z, upd_same]
        rcases hx with rfl | rfl
        · cases q
        · exact q
      · rw [upd_ne z]
        exact q
  · rw [upd_ne (by
      rintro rfl
      rw [hH] at e
      cases e
      rcases hx with rfl | rfl <;> rcases tc with ⟨_, z⟩ | ⟨_, z⟩ <;> cases z)]
    exact e
theorem SOk.unlockT (S : SOk B K Z F H n σ env) (hx : Dt2 od us x) (hF : F d = some x) (T : SOk (B.lock (upd F d (.frz od (.dT us))) (upd H d (.frz od (.dT us))) σ env d od (.dT us)) K Z' F2 H2 n' σ' env') (hT : Z'.T = Z.T) (xx : Ext (upd F d (.frz od (.dT us))) F2) (hn : n ≤ n') :
    SOk B K Z (upd F2 d x) (upd H2 d x) n' σ' env' ∧ Ext F (upd F2 d x) ∧ Ext F2 (upd F2 d x) ∧ (∀ {y : Addr}, NewAt (B.lock (upd F d (.frz od (.dT us))) (upd H d (.frz od (.dT us))) σ env d od (.dT us)) y → NewAt B y) ∧ F2 d = some (.frz od (.dT us)) := by
  have hy : Dt2 od us (.frz od (.dT us)) := .inr rfl
  have hH := S.same _ _ hF
  have h2 : F2 d = some (.frz od (.dT us)) := T.lk (d, od, .dT us) List.mem_cons_self
  have h2' := T.same _ _ h2
  have x3 := hy.ext hx h2
  have x13 : Ext F (upd F2 d x) := ((hx.ext hy hF).trans xx).trans x3
  have st := T.toCore.step (F' := upd F2 d x) (H' := upd H2 d x) x3 (Nat.le_refl _) fun i b c a ei si z hz => ⟨upd_ne (offd T.toCore h2 ei si z hz), (upd_ne (offd T.toCore h2 ei si z hz)).trans ((T.toCore.ownAt ei si).1 z hz)⟩
  have efp : ∀ {j : Nat} {b : Bool} {c : OC} {a : Addr}, env[j]? = some (.o b c) → σ[j]? = some (some (.ref a)) → fp (upd H d (.frz od (.dT us))) a c = fp H a c := fun {j b c a} ej aj => fp_congr fun z hz => upd_ne (offd S.toCore hF ej aj z hz)
  have back : ∀ z ∈ locs (upd H d (.frz od (.dT us))) B.bor σ env, B.H0 z = none ∨ z ∈ B.loc := fun z hz => by
    obtain ⟨nb, j, b, c, a, ej, aj, hf⟩ := of_mem_locs hz
    rw [efp ej aj] at hf
    rcases (S.toCore.ownAt ej aj).2.2.2 z hf with y | y
    · exact absurd y.2 nb
    · exact y
  have back2 : ∀ z, upd H d (.frz od (.dT us)) z = none → B.H0 z = none := fun z hz => S.fresh0 (by
    by_cases e : z = d
    · subst e; rw [upd_same] at hz; cases hz
    · rw [upd_ne e] at hz; exact hz)
  have up : ∀ z, z ≠ d → upd H d (.frz od (.dT us)) z = H z := fun z e => upd_ne e
  refine ⟨⟨⟨same_upd2 T.same, T.len, fun i c e => ?_, st.2, fun a o e hb hl => ?_, fun a e hb hl => ?_, S.bd, S.lb, fun p hp => ?_, T.bs, fun a e => ?_, ?_⟩, S.lnk.mono x13 hn⟩, x13, x3, fun {y} hz => hz.elim (fun h => .inl (back2 y h)) (back y), h2⟩
  · obtain ⟨o, e1, h⟩ := st.1 i c e
    refine ⟨o, e1, ?_⟩
    cases c with
    | un => trivial
    | d x => exact h
    | o b c =>
      obtain ⟨a, e2, h1, h2, h3, h4⟩ := h
      refine ⟨a, e2, h1, h2, h3, fun z hz => ?_⟩
      rcases h4 z hz with q | q | q
      · exact .inl q
      · exact .inr (.inl (back2 z q))
      · exact .inr (back z q)
  · have g := S.fr a o e hb hl
    by_cases z : a = d
    · subst z
      rw [upd_same, ← hH]
      exact g
    · rw [upd_ne z]
      obtain ⟨o1, e1⟩ := Option.isSome_iff_exists.mp g.isSome
      rw [e1] at g
      refine g.trans (T.fr a o1 ((up a z).trans e1) hb fun q => ?_)
      rcases back a q with w | w
      · rw [w] at e; cases e
      · exact hl w
  · by_cases z : a = d
    · subst z
      have g := S.ff a e hb hl
      unfold TF at g ⊢
      rw [upd_same, ← hF]
      exact g
    · have nl : a ∉ locs (upd H d (.frz od (.dT us))) B.bor σ env := fun q => by
        rcases back a q with w | w
        · rw [w] at e; cases e
        · exact hl w
      have hs := S.dom a e
      rcases T.ff a (by show (upd H d (.frz od (.dT us)) a).isSome = true; rw [up a z]; exact hs) hb nl with q | ⟨o', q, lx⟩
      · have q1 : F2 a = upd F d (.frz od (.dT us)) a := q
        rw [upd_ne z] at q1
        unfold TF
        rw [upd_ne z]
        exact (S.ff a e hb hl).imp (fun r => q1.trans r) id
      · obtain ⟨o, eo⟩ := Option.isSome_iff_exists.mp e
        have w : upd H d (.frz od (.dT us)) a = some o' := q
        rw [up a z] at w
        have g := S.fr a o eo hb hl
        rw [w] at g
        exact .inr ⟨o, eo, g.lax lx⟩
  · have q := S.lk p hp
    by_cases z : p.1 = d
    · rw [z, hF] at q
      rw [z, upd_same]
      exact q
    · rw [upd_ne z]
      exact T.lk p (List.mem_cons_of_mem _ hp)
  · have h := S.dom a e
    by_cases z : a = d
    · subst z; rw [upd_same]; rfl
    · rw [upd_ne z]
      exact T.dom a (by show (upd H d (.frz od (.dT us)) a).isSome = true; rw [up a z]; exact h)
  · rw [← hT]
    exact tabs_keep T.tb fun b o e tc => by
      rw [upd_ne (by
        rintro rfl
        rw [h2'] at e
        cases e
        rcases tc with ⟨_, z⟩ | ⟨_, z⟩ <;> cases z)]
      exact e
end
theorem dt_inv {K : PySem.W.Frag} {F : Hp} {v : V} {kvs : List (List Key × DV)} (h : Hold K F v (.dt kvs)) : ∃ (d : Addr) (us : List (List Key × V)), v = .ref d ∧ Rd F d (.dT us) ∧ us.map (·.1) = kvs.map (·.1) := by
  cases h with
  | dt h1 h2 _ => exact ⟨_, _, rfl, h1, h2⟩
def tkD (k : List Key) : DV := .tup (k.map keyDV)
def wForT (j : Nat) (g : DG) (w : WS) : WS := fun D env => match env[j]? with
  | some (.d (.dt kvs)) => kvs.length ≤ LINE ∧ goFor g w (onlyNx D) (kvs.map fun p => tkD p.1) env
  | _ => False
section
variable {X : Cx} {Z : ZX} {tg : Expr} {body : List Stmt} {cb : Nat} {js : List Nat} {g : DG} {w : WS} {pos p1 : Pos} {x : Str}
theorem for_dataT (hg : PGd X Z tg js g) (hb : PSSd X Z body cb w) {B : Base} {F F1 H1 : Hp} {n m0 : Nat} {σ : L2.St} {e : List Cell} {us : List (List Key × V)} {d : Addr} {od : Obj} {D : Ends} (S1 : SOk B X.K Z F1 H1 n σ e) (x1 : Ext F F1) (hlk : (d, od, HO.dT us) ∈ B.lk) (lenL : us.length ≤ LINE) (hm : n + LINE * cb ≤ m0) (hM : m0 ≤ Z.M) (go : goFor g w (endD B X.K Z F m0 D) (us.map fun p : List Key × V => tkD p.1) e) :
    ∃ W : Nat → Nat → L2.St → Hp → Prop, (∃ m, W 0 m σ H1) ∧ ∀ i m σ H, W i m σ H → ((Itkt d od us).stop i H ∧ D.nx σ H) ∨ ((Itkt d od us).go i H ∧ ∃ N : L2.St → Hp → Prop, (∀ σ' H', N σ' H' → ∃ m', m' < m ∧ W (i + 1) m' σ' H') ∧ ∀ v H', (Itkt d od us).yld i H v H' → tDg X.K Z js g v σ H' fun σ2 H2 => tDs X.K Z cb w { D with nx := N, ct := N, bk := D.nx } σ2 H2) := by
  refine ⟨fun i m σ' H' => m = us.length - i ∧ i ≤ us.length ∧ ∃ F' env', SOk B X.K Z F' H' (n + i * cb) σ' env' ∧ Ext F1 F' ∧ goFor g w (endD B X.K Z F m0 D) ((us.map fun p : List Key × V => tkD p.1).drop i) env',
    ⟨us.length, by simp, Nat.zero_le _, F1, e, by rw [Nat.zero_mul]; exact S1, Ext.refl _, go⟩, ?_⟩
  rintro i m σ2 H2 ⟨rfl, hi2, F2, env2, S2, x2, go2⟩
  have hmul : i * cb ≤ LINE * cb := Nat.mul_le_mul_right _ (Nat.le_trans hi2 lenL)
  have hlock : H2 d = some (.frz od (.dT us)) := S2.same _ _ (S2.lk _ hlk)
  by_cases hlt : i < us.length
  · have hmul2 : (i + 1) * cb ≤ LINE * cb := Nat.mul_le_mul_right _ (Nat.le_trans hlt lenL)
    rw [Nat.succ_mul] at hmul2
    refine .inr ⟨⟨hlock, hlt⟩, fun σ' H' => i + 1 ≤ us.length ∧ ∃ F' env', SOk B X.K Z F' H' (n + (i + 1) * cb) σ' env' ∧ Ext F1 F' ∧ goFor g w (endD B X.K Z F m0 D) ((us.map fun p : List Key × V => tkD p.1).drop (i + 1)) env', fun σ' H' q => ⟨us.length - (i + 1), by omega, rfl, q⟩, fun v H3 y => ?_⟩
    obtain ⟨rfl, k, w', q, ek, rfl, hq⟩ := y
    obtain ⟨F3, S3, s3, h3⟩ := S2.adopt hq
    have x3 : Ext F2 F3 := Ext.of s3
    have hd : Hold X.K F3 (.ref q) (tkD k) := .tup h3 (hold_keys _)
    have edr : (us.map fun p : List Key × V => tkD p.1).drop i = tkD k :: (us.map fun p : List Key × V => tkD p.1).drop (i + 1) := by
      rw [List.drop_eq_getElem_cons (by rw [List.length_map]; exact hlt), List.getElem_map]
      rw [(List.getElem?_eq_some_iff.mp ek).2]
    rw [edr] at go2
    refine ⟨B, F3, _, env2, _, S3, hd, hg.mono _ _ _ _ (fun e4 q σ4 S4 _ => ?_) go2⟩
    refine bindS (c := cb) hb.mono (by omega) S4 (x1.trans (x2.trans x3)) q ⟨fun e5 q5 σ5 H5 F5 S5 x5 => ?_, fun r e5 q5 v5 σ5 H5 F5 S5 x5 z5 => ?_, fun e5 q5 σ5 H5 F5 S5 x5 => ?_, fun e5 q5 σ5 H5 F5 S5 x5 => ?_⟩
    · exact ⟨hlt, F5, e5, by rw [Nat.succ_mul, ← Nat.add_assoc]; exact S5, (x2.trans x3).trans x5, q5⟩
    · exact q5 v5 σ5 H5 F5 (S5.mono (by omega)) ((x1.trans (x2.trans x3)).trans x5) (z5.mono (by omega))
    · exact q5 σ5 H5 F5 (S5.mono (by omega)) ((x1.trans (x2.trans x3)).trans x5)
    · exact ⟨hlt, F5, e5, by rw [Nat.succ_mul, ← Nat.add_assoc]; exact S5, (x2.trans x3).trans x5, q5⟩
  · have ei : i = us.length := by omega
    subst ei
    rw [List.drop_eq_nil_of_le (by rw [List.length_map]; exact Nat.le_refl _)] at go2
    exact .inl ⟨⟨hlock, Nat.le_refl _⟩, go2 σ2 H2 F2 (S2.mono (by omega)) (x1.trans x2)⟩
/-- for k in d, d a dict by data with tuples as keys -/
theorem psForT (j : Nat) (hp : PassesOwn (model X.prog X.w) X.A X.env X.xe) (hg : PGd X Z.calm tg js g) (hb : PSSd X Z.calm body cb w)
    (hNx : X.N[j]? = some x := by rfl) (hv : Vis X.env.scope x := by first | exact Or.inl rfl | exact Or.inr (Or.inl rfl) | exact Or.inr (Or.inr rfl)) (hd : (x == ("__debug__" : Str)) = false := by decide)
    (hcd : (x == ("__classdict__" : Str)) = false := by decide)
    (hc : X.calm = true := by rfl) (hs : ∀ z, foldedSetIterable (.Name x p1) X.env z = pure z := by intro _; rfl) :
    PSd X Z (.For tg (.Name x p1) body [] pos) (LINE * cb) (wForT j g w) := by
  have pk := ps_for (pos := pos) hp hc (pi_keys (pe_var (pos := p1) hNx hv hd hcd)) hg.run hb.run hs
  refine ⟨fun D D' env l h => ?_, PS_imp (ps_or pk (ps_lock pk)) fun D σ H ⟨B, F, n, env, hn, S, h⟩ => ?_⟩
  · unfold wForT at h ⊢
    split at h
    · exact ⟨h.1, goFor_mono (D := onlyNx D) (D' := onlyNx D') hg.mono hb.mono ⟨l.nx, fun _ _ z => z, fun _ z => z, fun _ z => z⟩ _ _ h.2⟩
    · exact h.elim
  · unfold wForT at h
    split at h
    · rename_i kvs ex
      obtain ⟨hl, go⟩ := h
      obtain ⟨v, ev, hv0⟩ := S.dat ex
      obtain ⟨d, us, rfl, rd, hk⟩ := dt_inv hv0
      have hkl : us.length = kvs.length := by
        have := congrArg List.length hk
        rw [List.length_map, List.length_map] at this
        exact this
      have em : (us.map fun p : List Key × V => tkD p.1) = kvs.map fun p => tkD p.1 := by
        have := congrArg (List.map tkD) hk
        rw [List.map_map, List.map_map] at this
        exact this
      rw [← em] at go
      have run : ∀ (od : Obj) (x : HO), Dt2 od us x → F d = some x → ∀ D' : Ends, (∀ σ' H2, H2 d = some (.frz od (.dT us)) → D.nx σ' (upd H2 d x) → D'.nx σ' H2) →
          tFor (iKeys fun σ H Q => tVar j σ H Q) (tDg X.K Z.calm js g) (tDs X.K Z.calm cb w) D' σ (upd H d (.frz od (.dT us))) := fun od x hx hF D' hD => by
        have S1 := S.lockT hx hF
        refine ⟨_, ev, d, od, rfl, .inr ⟨us, upd_same, ?_⟩⟩
        refine for_dataT hg hb S1 (Ext.refl _) (d := d) (od := od) List.mem_cons_self (by omega) (m0 := n + LINE * cb) (Nat.le_refl _) hn (goFor_mono (D := onlyNx (endD B X.K Z F (n + LINE * cb) D)) hg.mono hb.mono ⟨fun e q σ' H2 F2 T x' => ?_, fun _ _ z => False.elim z, fun _ z => False.elim z, fun _ z => False.elim z⟩ _ _ go)
        obtain ⟨S3, x13, x3, nn, h2⟩ := S.unlockT hx hF T rfl x' (by omega)
        exact hD _ _ (T.same _ _ h2) (q _ _ _ S3 x13)
      rcases rd with rd | ⟨od, rd⟩
      · exact .inr ⟨d, .dT us, S.same _ _ rd, trivial, fun od => run od _ (.inl rfl) rd _ fun σ' H2 h1 h2 => ⟨h1, h2⟩⟩
      · refine .inl ?_
        have e1 : upd H d (.frz od (.dT us)) = H := funext fun z => by
          by_cases ez : z = d
          · subst ez; rw [upd_same]; exact (S.same _ _ rd).symm
          · exact upd_ne ez
        have := run od _ (.inr rfl) rd D fun σ' H2 h1 h2 => by
          rw [show upd H2 d (.frz od (.dT us)) = H2 from funext fun z => by
            by_cases ez : z = d
            · subst ez; rw [upd_same]; exact h1.symm
            · exact upd_ne ez] at h2
          exact h2
        rw [e1] at this
        exact this
    · exact h.elim
end
end DL
set_option maxRecDepth 100000
set_option maxHeartbeats 4000000
namespace DL
open PySem PySem.Spec PyProof.Rows L2 LamX
/-! ### {k: v}, k a tuple -/
def tDisp1T (tk tv : TE) : TE := fun σ H Q => ∀ p, H p = none → tk σ (upd H p (.dT [])) fun x H1 => tv σ H1 fun y H2 => H2 p = some (.dT []) ∧ ∃ (k : List Key) (b : Addr), x = .ref b ∧ H2 b = some (.tup (k.map kV)) ∧ Q (.ref p) (upd H2 p (.dT [(k, y)]))
end DL
set_option maxRecDepth 100000
set_option maxHeartbeats 4000000
namespace DL
open PySem PySem.Spec PyProof.Rows L2 LamX
def dDisp1T (fa fb : DD) : DE := fun env Q => fa env fun x e1 => fb e1 fun y e2 => ∃ k, x.tkey = some k ∧ Q (.o false (.t [(k, y)])) e2
section
variable {X : Cx} {Z : ZX} {pos : Pos} {k v : Expr} {ca cb : Nat} {fa fb : DD}
end
end DL
set_option maxRecDepth 100000
set_option maxHeartbeats 4000000
namespace DL
open PySem PySem.Spec PyProof.Rows L2 LamX
/-! ### a slot is frozen ahead of a statement -/
def wPre (j : Nat) (w : WS) : WS := fun D env => dVar j env fun _ e => w D e
theorem psPreS {X : Cx} {Z : ZX} {st : Stmt} {c : Nat} {w : WS} (j : Nat) (h : PSd X Z st c w) : PSd X Z st c (wPre j w) := by
  refine ⟨fun D D' env l g => mono_var j _ _ _ (fun d e k => h.mono _ _ _ l k) g, PS_imp h.run fun D σ H ⟨B, F, n, env, hn, S, g⟩ => ?_⟩
  unfold wPre dVar at g
  split at g
  · exact ⟨B, F, n, env, hn, S, g⟩
  · rename_i c0 e0
    simp only at g
    split at g
    · rename_i d e2
      obtain ⟨a, F', e1, S', x', _⟩ := S.freeze e0 e2
      exact bindS h.mono hn S' (Ext.of x') g (endD_le (Ext.of x') (Nat.le_refl _))
    · exact g.elim
  · exact g.elim
end DL
set_option maxRecDepth 100000
set_option maxHeartbeats 4000000
/-! sums of powers: plain mathematics -/
namespace LTX
abbrev K3 := Int × Int × Int
abbrev Tms := List (K3 × Int)
def cf : Tms → K3 → Int
  | [], _ => 0
  | p :: r, k => (if p.1 = k then p.2 else 0) + cf r k
def ad (a b : K3) : K3 := (a.1 + b.1, a.2.1 + b.2.1, a.2.2 + b.2.2)
def sb (a b : K3) : K3 := (a.1 - b.1, a.2.1 - b.2.1, a.2.2 - b.2.2)
def scal (p : K3 × Int) (t : Tms) : Tms := t.map fun q => (ad p.1 q.1, p.2 * q.2)
def prods : Tms → Tms → Tms
  | [], _ => []
  | p :: s, t => scal p t ++ prods s t
def Eqv (s t : Tms) : Prop := ∀ k, cf s k = cf t k
theorem Eqv.refl (s : Tms) : Eqv s s := fun _ => rfl
theorem Eqv.symm {s t : Tms} (h : Eqv s t) : Eqv t s := fun k => (h k).symm
theorem Eqv.trans {s t u : Tms} (h : Eqv s t) (g : Eqv t u) : Eqv s u := fun k => (h k).trans (g k)
theorem k3_ext {a b : K3} (h1 : a.1 = b.1) (h2 : a.2.1 = b.2.1) (h3 : a.2.2 = b.2.2) : a = b := Prod.ext h1 (Prod.ext h2 h3)
theorem ad_assoc (a b c : K3) : ad (ad a b) c = ad a (ad b c) := k3_ext (Int.add_assoc ..) (Int.add_assoc ..) (Int.add_assoc ..)
theorem ad_comm (a b : K3) : ad a b = ad b a := k3_ext (Int.add_comm ..) (Int.add_comm ..) (Int.add_comm ..)
theorem zero_ad (a : K3) : ad (0, 0, 0) a = a := k3_ext (Int.zero_add _) (Int.zero_add _) (Int.zero_add _)
theorem ad_eq {a b k : K3} : ad a b = k ↔ b = sb k a := by
  constructor
  · rintro rfl
    exact k3_ext (by show b.1 = a.1 + b.1 - a.1; omega) (by show b.2.1 = a.2.1 + b.2.1 - a.2.1; omega) (by show b.2.2 = a.2.2 + b.2.2 - a.2.2; omega)
  · rintro rfl
    exact k3_ext (by show a.1 + (k.1 - a.1) = k.1; omega) (by show a.2.1 + (k.2.1 - a.2.1) = k.2.1; omega) (by show a.2.2 + (k.2.2 - a.2.2) = k.2.2; omega)
theorem cf_app (s t : Tms) (k : K3) : cf (s ++ t) k = cf s k + cf t k := by
  induction s with
  | nil => show cf t k = 0 + cf t k; omega
  | cons p s ih => rw [List.cons_append, cf, cf, ih]; omega
theorem cf_scal (p : K3 × Int) (t : Tms) (k : K3) : cf (scal p t) k = p.2 * cf t (sb k p.1) := by
  induction t with
  | nil => show (0 : Int) = p.2 * 0; rw [Int.mul_zero]
  | cons q t ih =>
    show (if ad p.1 q.1 = k then p.2 * q.2 else 0) + cf (scal p t) k = p.2 * ((if q.1 = sb k p.1 then q.2 else 0) + cf t (sb k p.1))
    rw [ih, Int.mul_add]
    by_cases h : ad p.1 q.1 = k
    · rw [if_pos h, if_pos (ad_eq.mp h)]
    · rw [if_neg h, if_neg (fun z => h (ad_eq.mpr z)), Int.mul_zero]
theorem prods_cons (p : K3 × Int) (s t : Tms) : prods (p :: s) t = scal p t ++ prods s t := rfl
theorem cf_prods_cons (p : K3 × Int) (s t : Tms) (k : K3) : cf (prods (p :: s) t) k = p.2 * cf t (sb k p.1) + cf (prods s t) k := by
  rw [prods_cons, cf_app, cf_scal]
theorem prods_nil (s : Tms) : prods s [] = [] := by
  induction s with
  | nil => rfl
  | cons p s ih => rw [prods_cons, ih]; rfl
theorem cf_prods_snoc (s : Tms) (q : K3 × Int) (t : Tms) (k : K3) : cf (prods s (q :: t)) k = q.2 * cf s (sb k q.1) + cf (prods s t) k := by
  induction s with
  | nil => show (0 : Int) = q.2 * 0 + 0; rw [Int.mul_zero]; rfl
  | cons p s ih =>
    rw [cf_prods_cons, cf_prods_cons, ih]
    show p.2 * ((if q.1 = sb k p.1 then q.2 else 0) + cf t (sb k p.1)) + (q.2 * cf s (sb k q.1) + cf (prods s t) k) = q.2 * ((if p.1 = sb k q.1 then p.2 else 0) + cf s (sb k q.1)) + (p.2 * cf t (sb k p.1) + cf (prods s t) k)
    rw [Int.mul_add, Int.mul_add]
    have e : (q.1 = sb k p.1) ↔ (p.1 = sb k q.1) := by rw [← ad_eq, ← ad_eq, ad_comm]
    by_cases h : q.1 = sb k p.1
    · rw [if_pos h, if_pos (e.mp h), Int.mul_comm p.2 q.2]; omega
    · rw [if_neg h, if_neg (fun z => h (e.mpr z)), Int.mul_zero, Int.mul_zero]; omega
theorem prods_comm (s t : Tms) : Eqv (prods s t) (prods t s) := fun k => by
  induction s with
  | nil => rw [prods_nil]; rfl
  | cons p s ih => rw [cf_prods_cons, cf_prods_snoc, ih]
theorem prods_right (s : Tms) {t t' : Tms} (h : Eqv t t') : Eqv (prods s t) (prods s t') := fun k => by
  induction s with
  | nil => rfl
  | cons p s ih => rw [cf_prods_cons, cf_prods_cons, ih, h]
theorem prods_left {s s' : Tms} (t : Tms) (h : Eqv s s') : Eqv (prods s t) (prods s' t) := (prods_comm s t).trans ((prods_right t h).trans (prods_comm t s'))
theorem prods_congr {s s' t t' : Tms} (h : Eqv s s') (g : Eqv t t') : Eqv (prods s t) (prods s' t') := (prods_left t h).trans (prods_right s' g)
theorem prods_app (a b u : Tms) : prods (a ++ b) u = prods a u ++ prods b u := by
  induction a with
  | nil => rfl
  | cons p a ih => rw [List.cons_append, prods_cons, prods_cons, ih, List.append_assoc]
theorem scal_app (p : K3 × Int) (a b : Tms) : scal p (a ++ b) = scal p a ++ scal p b := List.map_append
theorem scal_scal (p q : K3 × Int) (u : Tms) : scal (ad p.1 q.1, p.2 * q.2) u = scal p (scal q u) := by
  unfold scal
  rw [List.map_map]
  refine List.map_congr_left fun r _ => ?_
  show (ad (ad p.1 q.1) r.1, p.2 * q.2 * r.2) = (ad p.1 (ad q.1 r.1), p.2 * (q.2 * r.2))
  rw [ad_assoc, Int.mul_assoc]
theorem prods_scal (p : K3 × Int) (t u : Tms) : prods (scal p t) u = scal p (prods t u) := by
  induction t with
  | nil => rfl
  | cons q t ih =>
    show scal (ad p.1 q.1, p.2 * q.2) u ++ prods (scal p t) u = scal p (scal q u ++ prods t u)
    rw [ih, scal_app, scal_scal]
theorem prods_assoc (s t u : Tms) : prods (prods s t) u = prods s (prods t u) := by
  induction s with
  | nil => rfl
  | cons p s ih => rw [prods_cons, prods_app, prods_scal, ih, prods_cons]
def one : Tms := [((0, 0, 0), 1)]
theorem one_prods (t : Tms) : prods one t = t := by
  show scal ((0, 0, 0), 1) t ++ [] = t
  rw [List.append_nil]
  unfold scal
  conv => rhs; rw [← List.map_id t]
  refine List.map_congr_left fun q _ => ?_
  show (ad (0, 0, 0) q.1, 1 * q.2) = q
  rw [zero_ad, Int.one_mul]
theorem prods_one (t : Tms) : prods t one = t := by
  induction t with
  | nil => rfl
  | cons p t ih =>
    rw [prods_cons, ih]
    show [(ad p.1 (0, 0, 0), p.2 * 1)] ++ t = p :: t
    rw [ad_comm, zero_ad, Int.mul_one]
    rfl
def npow (s : Tms) : Nat → Tms
  | 0 => one
  | n + 1 => prods (npow s n) s
theorem npow_add (s : Tms) (m : Nat) : ∀ n, prods (npow s m) (npow s n) = npow s (m + n)
  | 0 => prods_one _
  | n + 1 => by
    show prods (npow s m) (prods (npow s n) s) = prods (npow s (m + n)) s
    rw [← prods_assoc, npow_add s m n]
theorem npow_one (s : Tms) : npow s 1 = s := one_prods s
/-! ### the one form -/
def lt3 (a b : K3) : Prop := a.1 < b.1 ∨ (a.1 = b.1 ∧ (a.2.1 < b.2.1 ∨ (a.2.1 = b.2.1 ∧ a.2.2 < b.2.2)))
theorem lt3_irrefl {a : K3} : ¬ lt3 a a := fun h => by unfold lt3 at h; omega
theorem lt3_trans {a b c : K3} (h : lt3 a b) (g : lt3 b c) : lt3 a c := by unfold lt3 at *; omega
theorem lt3_tri (a b : K3) : lt3 a b ∨ a = b ∨ lt3 b a := by
  by_cases h1 : a.1 = b.1
  · by_cases h2 : a.2.1 = b.2.1
    · by_cases h3 : a.2.2 = b.2.2
      · exact .inr (.inl (k3_ext h1 h2 h3))
      · unfold lt3; omega
    · unfold lt3; omega
  · unfold lt3; omega
structure Can (t : Tms) : Prop where
  srt : t.Pairwise fun p q => lt3 p.1 q.1
  nz : ∀ p ∈ t, p.2 ≠ 0
theorem cf_none {t : Tms} {k : K3} (h : ∀ p ∈ t, p.1 ≠ k) : cf t k = 0 := by
  induction t with
  | nil => rfl
  | cons p t ih =>
    rw [cf, if_neg (h p List.mem_cons_self), ih fun q hq => h q (List.mem_cons_of_mem _ hq)]
    rfl
theorem cf_key {t : Tms} {k : K3} (h : cf t k ≠ 0) : ∃ p ∈ t, p.1 = k := by
  false_or_by_contra
  rename_i n
  exact h (cf_none fun p hp e => n ⟨p, hp, e⟩)
theorem cf_head {p : K3 × Int} {t : Tms} (h : (p :: t).Pairwise fun p q => lt3 p.1 q.1) : cf (p :: t) p.1 = p.2 ∧ ∀ k, lt3 k p.1 → cf (p :: t) k = 0 := by
  obtain ⟨h1, _⟩ := List.pairwise_cons.mp h
  refine ⟨?_, fun k hk => cf_none fun q hq => ?_⟩
  · rw [cf, if_pos rfl, cf_none fun q hq e => lt3_irrefl (e ▸ h1 q hq)]
    omega
  · rcases List.mem_cons.mp hq with rfl | hq
    · rintro rfl
      exact lt3_irrefl hk
    · rintro rfl
      exact lt3_irrefl (lt3_trans hk (h1 q hq))
theorem can_unique : ∀ {s t : Tms}, Can s → Can t → Eqv s t → s = t
  | [], [], _, _, _ => rfl
  | [], q :: t, _, ht, e => by
    have := e q.1
    rw [(cf_head ht.srt).1] at this
    exact absurd this.symm (ht.nz q List.mem_cons_self)
  | p :: s, [], hs, _, e => by
    have := e p.1
    rw [(cf_head hs.srt).1] at this
    exact absurd this (hs.nz p List.mem_cons_self)
  | p :: s, q :: t, hs, ht, e => by
    have k1 : p.1 = q.1 := by
      rcases lt3_tri p.1 q.1 with h | h | h
      · have := e p.1
        rw [(cf_head hs.srt).1, (cf_head ht.srt).2 _ h] at this
        exact absurd this (hs.nz p List.mem_cons_self)
      · exact h
      · have := e q.1
        rw [(cf_head ht.srt).1, (cf_head hs.srt).2 _ h] at this
        exact absurd this.symm (ht.nz q List.mem_cons_self)
    have k2 : p.2 = q.2 := by
      have := e p.1
      rw [(cf_head hs.srt).1, k1, (cf_head ht.srt).1] at this
      exact this
    have pq : p = q := Prod.ext k1 k2
    subst pq
    refine congrArg (p :: ·) (can_unique ⟨(List.pairwise_cons.mp hs.srt).2, fun r hr => hs.nz r (List.mem_cons_of_mem _ hr)⟩ ⟨(List.pairwise_cons.mp ht.srt).2, fun r hr => ht.nz r (List.mem_cons_of_mem _ hr)⟩ fun k => ?_)
    have := e k
    rw [cf, cf] at this
    omega
theorem can_nodup {t : Tms} (h : Can t) : (t.map (·.1)).Nodup := List.pairwise_map.mpr (h.srt.imp fun {a b} hl (e : a.1 = b.1) => lt3_irrefl (a := b.1) (by rw [e] at hl; exact hl))
theorem cf_mem {t : Tms} (h : (t.map (·.1)).Nodup) {p : K3 × Int} (hp : p ∈ t) : cf t p.1 = p.2 := by
  induction t with
  | nil => cases hp
  | cons q t ih =>
    rw [List.map_cons, List.nodup_cons] at h
    rcases List.mem_cons.mp hp with rfl | hp
    · have z : cf t p.1 = 0 := cf_none fun r hr e => h.1 (by rw [← e]; exact List.mem_map_of_mem hr)
      rw [cf, if_pos rfl, z]
      omega
    · rw [cf, if_neg (fun e : q.1 = p.1 => h.1 (by rw [e]; exact List.mem_map_of_mem hp)), ih h.2 hp]
      omega
theorem can_keys {t u : Tms} (h : Can t) (e : Eqv t u) : ∀ k ∈ t.map (·.1), k ∈ u.map (·.1) := fun k hk => by
  obtain ⟨p, hp, rfl⟩ := List.mem_map.mp hk
  have h1 := cf_mem (can_nodup h) hp
  have h2 : cf u p.1 ≠ 0 := by rw [← e, h1]; exact h.nz p hp
  obtain ⟨q, hq, e2⟩ := cf_key h2
  exact e2 ▸ List.mem_map_of_mem hq
/-! ### size -/
def nrm : Tms → Nat
  | [] => 0
  | p :: r => p.2.natAbs + nrm r
theorem cf_le (t : Tms) (k : K3) : (cf t k).natAbs ≤ nrm t := by
  induction t with
  | nil => exact Nat.le_refl _
  | cons p t ih =>
    rw [cf, nrm]
    split <;> omega
theorem nrm_app (s t : Tms) : nrm (s ++ t) = nrm s + nrm t := by
  induction s with
  | nil => exact (Nat.zero_add _).symm
  | cons p s ih => rw [List.cons_append, nrm, nrm, ih]; omega
theorem nrm_scal (p : K3 × Int) (t : Tms) : nrm (scal p t) = p.2.natAbs * nrm t := by
  induction t with
  | nil => rfl
  | cons q t ih =>
    show (p.2 * q.2).natAbs + nrm (scal p t) = p.2.natAbs * (q.2.natAbs + nrm t)
    rw [ih, Int.natAbs_mul, Nat.mul_add]
theorem nrm_prods (s t : Tms) : nrm (prods s t) = nrm s * nrm t := by
  induction s with
  | nil => exact (Nat.zero_mul _).symm
  | cons p s ih => rw [prods_cons, nrm_app, nrm_scal, ih, nrm, Nat.add_mul]
theorem nrm_npow (s : Tms) : ∀ n, nrm (npow s n) = nrm s ^ n
  | 0 => rfl
  | n + 1 => by show nrm (prods (npow s n) s) = _; rw [nrm_prods, nrm_npow s n, Nat.pow_succ]
theorem len_prods (s t : Tms) : (prods s t).length = s.length * t.length := by
  induction s with
  | nil => exact (Nat.zero_mul _).symm
  | cons p s ih => rw [prods_cons, List.length_append, ih, List.length_cons, Nat.add_mul, scal, List.length_map]; omega
theorem nodup_len {α : Type} [DecidableEq α] : ∀ {ks us : List α}, ks.Nodup → (∀ k ∈ ks, k ∈ us) → ks.length ≤ us.length
  | [], _, _, _ => Nat.zero_le _
  | k :: ks, us, h, m => by
    obtain ⟨h1, h2⟩ := List.nodup_cons.mp h
    have hk := m k List.mem_cons_self
    have := nodup_len (ks := ks) (us := us.erase k) h2 fun x hx => (List.mem_erase_of_ne (by rintro rfl; exact h1 hx)).mpr (m x (List.mem_cons_of_mem _ hx))
    rw [List.length_erase_of_mem hk] at this
    have := List.length_pos_of_mem hk
    rw [List.length_cons]
    omega
/-- how many keys a power may have -/
def Grw (s : Tms) (N : Nat) : Prop := ∃ M : Nat → Nat, (∀ a, a ≤ N → ∀ ks : List K3, ks.Nodup → (∀ k ∈ ks, k ∈ (npow s a).map (·.1)) → ks.length ≤ M a) ∧ ∀ a b, a + b ≤ N → M a * M b < 16777216
/-! ### dicts -/
def getT (t : Tms) (k : K3) : Option Int := (t.find? fun p => decide (p.1 = k)).map (·.2)
def putT (t : Tms) (k : K3) (v : Int) : Tms := if (getT t k).isSome then t.map fun p => if p.1 = k then (k, v) else p else t ++ [(k, v)]
def addT (t : Tms) (k : K3) (x : Int) : Tms := putT t k ((getT t k).getD 0 + x)
theorem getT_cons (p : K3 × Int) (t : Tms) (k : K3) : getT (p :: t) k = if p.1 = k then some p.2 else getT t k := by
  unfold getT
  by_cases h : p.1 = k
  · rw [List.find?_cons_of_pos (by simp [h]), if_pos h]; rfl
  · rw [List.find?_cons_of_neg (by simp [h]), if_neg h]
theorem getT_some {t : Tms} {k : K3} : (getT t k).isSome = true ↔ k ∈ t.map (·.1) := by
  induction t with
  | nil => simp [getT]
  | cons p t ih =>
    rw [getT_cons, List.map_cons, List.mem_cons]
    by_cases h : p.1 = k
    · rw [if_pos h]; simp [h]
    · rw [if_neg h, ih]
      exact ⟨.inr, fun z => z.resolve_left fun e => h e.symm⟩
theorem getT_cf {t : Tms} (h : (t.map (·.1)).Nodup) (k : K3) : (getT t k).getD 0 = cf t k := by
  induction t with
  | nil => rfl
  | cons p t ih =>
    rw [List.map_cons, List.nodup_cons] at h
    rw [getT_cons, cf]
    by_cases e : p.1 = k
    · have z : cf t k = 0 := cf_none fun q hq e2 => h.1 (by rw [e, ← e2]; exact List.mem_map_of_mem hq)
      rw [if_pos e, if_pos e, z]
      show p.2 = p.2 + 0
      omega
    · rw [if_neg e, if_neg e, ih h.2]
      omega
theorem keys_repl (t : Tms) (k : K3) (v : Int) : (t.map fun p => if p.1 = k then (k, v) else p).map (·.1) = t.map (·.1) := by
  rw [List.map_map]
  refine List.map_congr_left fun p _ => ?_
  show (if p.1 = k then (k, v) else p).1 = p.1
  split
  · rename_i h; exact h.symm
  · rfl
theorem putT_keys (t : Tms) (k : K3) (v : Int) : (putT t k v).map (·.1) = if k ∈ t.map (·.1) then t.map (·.1) else t.map (·.1) ++ [k] := by
  unfold putT
  by_cases h : k ∈ t.map (·.1)
  · rw [if_pos (getT_some.mpr h), if_pos h, keys_repl]
  · rw [if_neg (fun z => h (getT_some.mp z)), if_neg h, List.map_append]; rfl
theorem putT_nodup {t : Tms} (h : (t.map (·.1)).Nodup) (k : K3) (v : Int) : ((putT t k v).map (·.1)).Nodup := by
  rw [putT_keys]
  split
  · exact h
  · rename_i n
    rw [List.nodup_append]
    refine ⟨h, by simp, fun a ha b hb e => ?_⟩
    rw [List.mem_singleton] at hb
    exact n (hb ▸ e ▸ ha)
theorem cf_repl {t : Tms} (h : (t.map (·.1)).Nodup) (k : K3) (v : Int) (k' : K3) : cf (t.map fun p => if p.1 = k then (k, v) else p) k' = if k = k' ∧ k ∈ t.map (·.1) then v else cf t k' := by
  induction t with
  | nil => simp [cf]
  | cons p t ih =>
    rw [List.map_cons, List.nodup_cons] at h
    rw [List.map_cons, cf, ih h.2]
    by_cases e : p.1 = k
    · rw [if_pos e]
      have nk : k ∉ t.map (·.1) := e ▸ h.1
      show (if k = k' then v else 0) + (if k = k' ∧ k ∈ t.map (·.1) then v else cf t k') = _
      rw [if_neg (c := k = k' ∧ k ∈ t.map (·.1)) (fun z => nk z.2)]
      by_cases e2 : k = k'
      · have z : cf t k' = 0 := cf_none fun q hq z => nk (by rw [e2, ← z]; exact List.mem_map_of_mem hq)
        rw [if_pos e2, if_pos (c := k = k' ∧ k ∈ (p :: t).map (·.1)) ⟨e2, by rw [List.map_cons, e]; exact List.mem_cons_self⟩, z]
        omega
      · rw [if_neg e2, if_neg (c := k = k' ∧ k ∈ (p :: t).map (·.1)) (fun z => e2 z.1), cf, if_neg (fun z => e2 (e ▸ z))]
    · rw [if_neg e]
      by_cases e2 : k = k' ∧ k ∈ t.map (·.1)
      · rw [if_pos e2, if_pos (c := k = k' ∧ k ∈ (p :: t).map (·.1)) ⟨e2.1, by rw [List.map_cons]; exact List.mem_cons_of_mem _ e2.2⟩, if_neg (fun z => e (z.trans e2.1.symm))]
        omega
      · rw [if_neg e2, if_neg (c := k = k' ∧ k ∈ (p :: t).map (·.1)), cf]
        rintro ⟨z1, z2⟩
        rw [List.map_cons] at z2
        rcases List.mem_cons.mp z2 with z2 | z2
        · exact e z2.symm
        · exact e2 ⟨z1, z2⟩
theorem cf_addT {t : Tms} (h : (t.map (·.1)).Nodup) (k : K3) (x : Int) (k' : K3) : cf (addT t k x) k' = cf t k' + if k = k' then x else 0 := by
  unfold addT putT
  rw [getT_cf h]
  by_cases m : k ∈ t.map (·.1)
  · rw [if_pos (getT_some.mpr m), cf_repl h]
    by_cases e : k = k'
    · rw [if_pos ⟨e, m⟩, if_pos e, e]
    · rw [if_neg (fun z => e z.1), if_neg e]; omega
  · rw [if_neg (fun z => m (getT_some.mp z)), cf_app, cf]
    have z : cf t k = 0 := cf_none fun q hq e => m (e ▸ List.mem_map_of_mem hq)
    rw [z]
    show cf t k' + ((if k = k' then 0 + x else 0) + 0) = _
    split <;> omega
def foldA (t : Tms) (l : Tms) : Tms := l.foldl (fun t p => addT t p.1 p.2) t
theorem foldA_cons (t : Tms) (p : K3 × Int) (l : Tms) : foldA t (p :: l) = foldA (addT t p.1 p.2) l := rfl
theorem foldA_ok : ∀ (l t : Tms), (t.map (·.1)).Nodup → ((foldA t l).map (·.1)).Nodup ∧ (∀ k, cf (foldA t l) k = cf t k + cf l k) ∧ ∀ k ∈ (foldA t l).map (·.1), k ∈ t.map (·.1) ∨ k ∈ l.map (·.1)
  | [], t, h => ⟨h, fun k => (Int.add_zero _).symm, fun k hk => .inl hk⟩
  | p :: l, t, h => by
    rw [foldA_cons]
    obtain ⟨h1, h2, h3⟩ := foldA_ok l (addT t p.1 p.2) (putT_nodup h _ _)
    refine ⟨h1, fun k => ?_, fun k hk => ?_⟩
    · rw [h2, cf_addT h, cf]; omega
    · rcases h3 k hk with h4 | h4
      · unfold addT at h4
        rw [putT_keys] at h4
        split at h4
        · exact .inl h4
        · rcases List.mem_append.mp h4 with h4 | h4
          · exact .inl h4
          · rw [List.mem_singleton] at h4
            exact .inr (by rw [List.map_cons, h4]; exact List.mem_cons_self)
      · exact .inr (by rw [List.map_cons]; exact List.mem_cons_of_mem _ h4)
theorem foldA_eqv (l : Tms) : Eqv (foldA [] l) l := fun k => by rw [(foldA_ok l [] (by simp)).2.1]; show 0 + cf l k = _; omega
end LTX
set_option maxRecDepth 100000
set_option maxHeartbeats 4000000
namespace DL
open PySem PySem.Spec PyProof.Rows L2 LamX
/-! ### dicts of ints whose keys are tuples of ints, written ones among them -/
def IK (K : PySem.W.Frag) (H : Hp) (y : V) (ks : List Int) : Prop := ∃ b, y = .ref b ∧ SqT K H b (ks.map V.int)
theorem intsV_hold {K : PySem.W.Frag} {F : Hp} : ∀ {vs : List V} {xs : List DV} {ks : List Int}, HoldAll K F vs xs → intsV xs = some ks → vs = ks.map V.int
  | _, _, ks, .nil, e => by cases e; rfl
  | _, _, ks, .cons (d := d) (ds := ds) h t, e => by
    cases d with
    | int i =>
      rw [intsV] at e
      obtain ⟨r, e1, rfl⟩ := Option.map_eq_some_iff.mp e
      cases h
      rw [intsV_hold t e1]
      rfl
    | _ => simp [intsV] at e
theorem ik_of {K : PySem.W.Frag} {F H : Hp} {v : V} {d : DV} {ks : List Int} (s : Same F H) (h : Hold K F v d) (e : ikey d = some ks) : IK K H v ks := by
  cases h with
  | tup h1 h2 =>
    have := intsV_hold h2 e
    subst this
    exact ⟨_, rfl, SqT.of (s _ _ h1)⟩
  | ktup h1 h2 h3 h4 h5 h6 =>
    have := intsV_hold h6 e
    subst this
    exact ⟨_, rfl, .inr ⟨_, _, _, h1, h2, h3, h4, h5⟩⟩
  | _ => cases e
section
variable {X : Cx} {pins : List (Addr × Obj)} {σ : L2.St} {H : Hp} {s : Shared} {a : Addr} {y : V} {u r : Value} {A : Around} {E : Value → Shared → Prop} {ks : List Int} {xs : List (List Int × Addr × Value)}
theorem int_items {prog : Program} {w : World} : ∀ {ks : List Int} {us : List Value}, Vals (ks.map V.int) us → ItemsAre (intKind prog w) ks us
  | [], _, r => by rw [List.map_nil] at r; cases r; exact .nil
  | k :: ks, _, r => by
    rw [List.map_cons] at r
    cases r with
    | cons h t =>
      obtain ⟨t', e⟩ := h
      subst e
      exact .cons (by simp [PySem.intKind, Value.isInt]) (int_items t)
theorem sqT_is {b : Addr} (I : Inv X pins σ H s) (h : SqT X.K H b (ks.map V.int)) : (tupleKind (intKind X.prog X.w)).is s.heap ks b := by
  obtain ⟨its, rv, ⟨o, h1, h2, n, h3⟩, _⟩ := I.tuple h
  exact ⟨o, its.toArray, n, h1, h2, h3, by simpa using int_items rv⟩
def UK (K : PySem.W.Frag) (H : Hp) (xs : List (List Int × Addr × Value)) : Prop := ∀ x ∈ xs, SqT K H x.2.1 (x.1.map V.int)
theorem ud_of (I : Inv X pins σ H s) (e : H a = some (UD a xs)) (uk : UK X.K H xs) : xs.length ≤ sizeLine ∧ (a == sysModules) = false ∧ s.heap.DictOfH (tupleKind (intKind X.prog X.w)) a xs := by
  obtain ⟨⟨z, y, o, es, ep, h1, h2, h3, h4, h5⟩, _⟩ := (show ObjOk X.prog X.w H s.heap a (UD a xs) from I.hok a _ e)
  exact ⟨z, y, o, es, ep, h1, h2, h3, h4, fun x hx => sqT_is I (uk x hx), h5⟩
theorem ud_ok {P : Program} {w : World} {H' : Hp} {h' : Heap} (z : xs.length ≤ sizeLine) (hd : (a == sysModules) = false) (dd : ∃ o es ep, h'.get? a = some o ∧ o.ExactDict ∧ o.data = .dict es ep ∧ es.toList = xs.map uEnt ∧ (xs.map (·.1)).Nodup) : ObjOk P w H' h' a (UD a xs) := by
  obtain ⟨o, es, ep, h1, h2⟩ := dd
  refine ⟨⟨z, hd, o, es, ep, h1, h2⟩, ⟨o, h1⟩, fun h1 h2 p k => ?_⟩
  obtain ⟨q1, q2, o, es, ep, q3, q4⟩ := p
  exact ⟨q1, q2, o, es, ep, k _ q3, q4⟩
theorem u_getItem {p : Addr × Value} {Q : Value → Shared → Prop} (hu : A.units + 1 < cLine) (I : Inv X pins σ H s) (e : H a = some (UD a xs)) (uk : UK X.K H xs) (g : IK X.K H y ks) (hp : atKey xs ks = some p) (ry : RelV y u) (h : ∀ s', Inv X pins σ H s' → Q p.2 s') :
    wpAny (model X.prog X.w) A (getItem (.ref a) u) Q E s := by
  obtain ⟨b, rfl, hb⟩ := g
  cases (show u = Value.ref b from ry)
  obtain ⟨_, _, dd⟩ := ud_of I e uk
  exact wpAny_getItem_heap (tupleKind_room_in1 hu) (sqT_is I hb) dd hp (h _ (I.tok _))
theorem u_notIn {Q : Value → Shared → Prop} (hu : A.units + 1 < cLine) (I : Inv X pins σ H s) (e : H a = some (UD a xs)) (uk : UK X.K H xs) (g : IK X.K H y ks) (ry : RelV y u) (h : ∀ s', Inv X pins σ H s' → Q (.bool (!(atKey xs ks).isSome)) s') :
    wpAny (model X.prog X.w) A (compareOp .NotIn u (.ref a)) Q E s := by
  obtain ⟨b, rfl, hb⟩ := g
  cases (show u = Value.ref b from ry)
  obtain ⟨_, hd, dd⟩ := ud_of I e uk
  exact wpAny_notIn_heap (tupleKind_room_in1 hu) (sqT_is I hb) hd dd (h _ (I.tok _))
theorem len_storedH {K : Type} [DecidableEq K] (xs : List (K × Addr × Value)) (k : K) (b : Addr) (v : Value) : (storedH xs k b v).length ≤ xs.length + 1 := by
  unfold storedH
  split
  · rw [List.length_map]; omega
  · rw [List.length_append]; exact Nat.le_refl _
theorem u_setItem {b : Addr} {Q : Unit → Shared → Prop} (hu : A.units + 1 < cLine) (I : Inv X pins σ H s) (e : H a = some (UD a xs)) (uk : UK X.K H xs) (hb : SqT X.K H b (ks.map V.int)) (hl : xs.length < sizeLine) (h : ∀ s', Inv X pins σ (upd H a (UD a (storedH xs ks b r))) s' → Q () s') :
    wpAny (model X.prog X.w) A (setItem (.ref a) (.ref b) r) Q E s := by
  obtain ⟨z, hd, dd⟩ := ud_of I e uk
  refine wpAny_setItem_heap (hsz := z) (tupleKind_room_in1 hu) (sqT_is I hb) dd fun h' dd' hs => h _ ?_
  obtain ⟨q, es, ep, hq, h2, h3, h4, _, h5⟩ := dd'
  exact d_write I (by rw [e]; exact True.intro) hs ⟨q, hq⟩ (ud_ok (by have := len_storedH xs ks b r; omega) hd ⟨q, es, ep, hq, h2, h3, h4, h5⟩)
end
section
variable {X : Cx} {o i value : Expr} {pos pos' : Pos} {td ty tv : TE}
def GetU (K : PySem.W.Frag) (H : Hp) (a : Addr) (y : V) (n : Option Int) : Prop := ∃ xs ks, H a = some (UD a xs) ∧ UK K H xs ∧ IK K H y ks ∧ (match n with
  | none => atKey xs ks = none
  | some i => ∃ b t, atKey xs ks = some (b, .int i t))
theorem GetU.isSome {K : PySem.W.Frag} {H : Hp} {a : Addr} {y : V} {n : Option Int} {xs : List (List Int × Addr × Value)} {ks : List Int} (h : match n with
  | none => atKey xs ks = none
  | some i => ∃ b t, atKey xs ks = some (b, .int i t)) : (atKey xs ks).isSome = n.isSome := by
  cases n with
  | none => rw [show atKey xs ks = none from h]; rfl
  | some i =>
    obtain ⟨b, t, e⟩ := h
    rw [e]
    rfl
theorem op_notInU (hu : X.A.units + 65 < cLine) : OpR X (compareOp .NotIn) (fun x y H Q => ∃ a n, y = .ref a ∧ GetU X.K H a x n ∧ Q (.bl (!n.isSome)) H) := by
  intro pins s σ H x y v u Q I rx ry ⟨a, n, e, ⟨xs, ks, h1, h2, h3, h4⟩, q⟩
  subst e
  obtain rfl : u = .ref a := ry
  exact u_notIn (by omega) I h1 h2 h3 rx fun s' I' => ⟨.bl (!n.isSome), H, I', by rw [GetU.isSome (K := X.K) (H := H) (a := a) (y := x) h4]; rfl, q⟩
theorem ix_U (hu : X.A.units + 1 < cLine) : IxR X (fun x y H Q => ∃ a n, x = .ref a ∧ GetU X.K H a y (some n) ∧ Q (.int n) H) := fun {value slice pins s σ H x y v u Q} I rx ry ⟨a, n, ex, ⟨xs, ks, h1, h2, h3, b, t, h4⟩, q⟩ hs => by
  subst ex
  cases rx
  have T : s.TypeIs (.ref a) "dict" := (ud_of I h1 h2).2.2.typeIs
  have got := u_getItem (Q := EP X pins σ Q) (E := X.xe) hu I h1 h2 h3 h4 ry fun s3 J => ⟨.int n, H, J, ⟨t, rfl⟩, q⟩
  have item : wpAny (model X.prog X.w) X.A (subscripted slice false (.ref a) u) (fun r s₃ => wpAny (model X.prog X.w) X.A (letTemporaryGo value (.ref a) r >>= fun _ => pure r) (EP X pins σ Q) X.xe s₃) X.xe s := by
    rw [hs]
    refine wpAny_operating (wpAny_mono got (fun r s3 z => ?_) fun _ _ z => z)
    exact wpAny_bind (wpAny_letTemporaryGo (wpAny_pure z))
  unfold subscriptTail
  refine wpAny_bind ?_
  rw [getitemInPython_of_ne T.not_modules]
  refine wpAny_bind (wpAny_specialOf T PySem.F.slot_dict_getitem.lookup ?_)
  first
    | exact wpAny_bind item
    | exact wpAny_pure (wpAny_bind item)
    | exact wpAny_bind (wpAny_pure (wpAny_bind item))
/-- d[y] = n -/
def sUPut (K : PySem.W.Frag) (td ty tv : TE) : TS := fun D σ H => tv σ H fun v H1 => td σ H1 fun x H2 => ty σ H2 fun y H3 => ∃ a b n xs ks, x = .ref a ∧ y = .ref b ∧ v = .int n ∧ H3 a = some (UD a xs) ∧ UK K H3 xs ∧ SqT K H3 b (ks.map V.int) ∧ xs.length < sizeLine ∧ ∀ t, D.nx σ (upd H3 a (UD a (storedH xs ks b (.int n t))))
theorem ps_uput (hu : X.A.units + 1 < cLine) (ho : PE X o td) (hi : PE X i ty) (hv : PE X value tv) (hs : swapsWith value (some (.Subscript o i pos')) pos.line X.env = pure false) :
    PS X (.Assign [.Subscript o i pos'] value pos) (sUPut X.K td ty tv) := by
  refine ⟨fun pins s σ H D I h => ?_⟩
  refine wpAny_Assign_Subscript (thn (hv.run pins s σ H _ I h) fun r s1 ⟨v, H1, I1, rv, q1⟩ => thn (ho.run pins s1 σ H1 _ I1 q1) fun u s2 ⟨x, H2, I2, rx, q2⟩ => thn (hi.run pins s2 σ H2 _ I2 q2) fun iv s3 ⟨y, H3, I3, ry, a, b, n, xs, ks, ex, ey, ev, h1, h2, h3, h4, q3⟩ => ?_) hs
  subst ex ey ev
  obtain rfl : u = Value.ref a := rx
  obtain rfl : iv = Value.ref b := ry
  obtain ⟨t, rfl⟩ := (show ∃ t, r = Value.int n t from rv)
  exact u_setItem hu I3 h1 h2 h3 h4 fun s4 I4 => ⟨σ, _, I4, q3 t⟩
def tDNewU : TE := fun σ H Q => ∀ p, H p = none → Q (.ref p) (upd H p (UD p []))
theorem pe_dnewU : PE X (.Dict [] [] pos) tDNewU := ⟨fun pins s σ H Q I h =>
  wpAny_Dict_empty ⟨.ref s.heap.objs.size, _, I.laid (a := s.heap.objs.size) (o := UD s.heap.objs.size []) (t' := s.toks) (fun _ _ q => Heap.get?_push_of_some _ q) (Nat.le_refl _) (ud_ok (Nat.zero_le _) (beq_eq_false_iff_ne.mpr (Nat.ne_of_gt I.big)) ⟨_, #[], 0, Heap.get?_push_size _ rfl, ⟨rfl, rfl, rfl⟩, rfl, rfl, List.nodup_nil⟩), rfl, h _ (I.hok.fresh (Nat.le_refl _))⟩⟩
theorem call_listU (hc : X.calm = true) : CallR X (.type "list") (fun us H Q => ∃ d xs, us = [V.ref d] ∧ H d = some (UD d xs) ∧ UK X.K H xs ∧ ∀ p, H p = none → Q (.ref p) (upd H p (.lst (xs.map fun x => V.ref x.2.1)))) := by
  intro pins s σ H us ws Q I r h
  obtain ⟨d, ks, rfl, hd, uk, q⟩ := h
  obtain ⟨u, rfl, rx⟩ := r.one
  cases rx
  obtain ⟨z, hs, o, es, ep, ho, hx, hdt, he, _, hn⟩ := ud_of I hd uk
  have l1 : es.size = ks.length := size_of_entries he
  refine PySem.W.kdl_call (kdl_raw hs hx hdt) (I.ok.hd hc) ho (by omega) fun h' tk acc' c' kp e it => ?_
  have ea : acc'.toList = ks.map fun x => Value.ref x.2.1 := by
    have hl : acc'.toList.length = ks.length := by rw [Array.length_toList, it.1]; exact l1
    apply List.ext_getElem?
    intro j
    rw [List.getElem?_map]
    cases hj : acc'.toList[j]? with
    | none =>
      have h1 := List.getElem?_eq_none_iff.mp hj
      rw [List.getElem?_eq_none (by omega)]
      all_goals rfl
    | some v =>
      obtain ⟨en, hen, hv⟩ := it.2 j v (by rw [← Array.getElem?_toList]; exact hj)
      have qe := entry_at he j
      rw [hen] at qe
      cases hb : ks[j]? with
      | none =>
        rw [hb] at qe
        exact nomatch (show some en = none from qe)
      | some b =>
        rw [hb] at qe
        have e2 : en = entryOfKey (tupleKind (intKind X.prog X.w)) b := Option.some.inj qe
        rw [hv, e2]
        all_goals rfl
  have eb : acc'.toList = (ks.map fun x => x.2.1).map Value.ref := by rw [ea, List.map_map]; all_goals rfl
  have rv : Vals (ks.map fun x => V.ref x.2.1) acc'.toList := by
    have := vals_refs (ks.map fun x => x.2.1)
    rw [List.map_map] at this
    rw [eb]
    exact this
  have hz : (ks.map fun x => V.ref x.2.1).length ≤ sizeLine := by rw [List.length_map]; omega
  refine ⟨.ref s.heap.objs.size, _, I.laid (t' := tk) (o := .lst (ks.map fun x => V.ref x.2.1)) kp (Nat.le_refl _) ?_, rfl, q _ (I.hok.fresh (Nat.le_refl _))⟩
  exact ⟨hz, acc'.toList, c', rv, by rw [Array.toArray_toList]; exact e⟩
end
/-! by data -/
def uval (kvs : List (DV × Int)) (k : List Int) : Option Int := (kvs.find? fun p => decide (ikey p.1 = some k)).map (·.2)
def uput (kvs : List (DV × Int)) (x : DV) (k : List Int) (n : Int) : List (DV × Int) := if (uval kvs k).isSome then kvs.map fun p => if ikey p.1 = some k then (p.1, n) else p else kvs ++ [(x, n)]
section
variable {K : PySem.W.Frag} {F H : Hp} {kvs : List (DV × Int)} {xs : List (List Int × Addr × Value)} {k : List Int}
theorem UP.at_ (h : Paired (UP K F) kvs xs) (k : List Int) : match uval kvs k with
  | none => atKey xs k = none
  | some i => ∃ b t, atKey xs k = some (b, .int i t) := by
  induction h with
  | nil => exact rfl
  | @cons p q ps qs h t ih =>
    obtain ⟨h1, h2, t', h3⟩ := h
    by_cases e : q.1 = k
    · have e1 : ikey p.1 = some k := by rw [h2, e]
      have a1 : uval (p :: ps) k = some p.2 := by unfold uval; rw [List.find?_cons_of_pos (by simp [e1])]; rfl
      have a2 : atKey (q :: qs) k = some q.2 := by unfold atKey; rw [List.find?_cons_of_pos (by simp [e])]; rfl
      rw [a1]
      exact ⟨q.2.1, t', by rw [a2, ← h3]⟩
    · have e1 : ¬ ikey p.1 = some k := by rw [h2]; exact fun z => e (Option.some.inj z)
      have a1 : uval (p :: ps) k = uval ps k := by unfold uval; rw [List.find?_cons_of_neg (by simp [e1])]
      have a2 : atKey (q :: qs) k = atKey qs k := by unfold atKey; rw [List.find?_cons_of_neg (by simp [e])]
      rw [a1, a2]
      exact ih
theorem UP.some_ (h : Paired (UP K F) kvs xs) (k : List Int) : (atKey xs k).isSome = (uval kvs k).isSome := GetU.isSome (K := K) (H := F) (a := 0) (y := .non) (UP.at_ h k)
theorem UP.uk (h : Paired (UP K F) kvs xs) (s : Same F H) : UK K H xs := by
  induction h with
  | nil => exact fun x hx => nomatch hx
  | @cons p q ps qs h t ih =>
    intro x hx
    rcases List.mem_cons.mp hx with rfl | hx
    · obtain ⟨b, e, hb⟩ := ik_of s h.1 h.2.1
      cases e
      exact hb
    · exact ih x hx
theorem UP.repl (h : Paired (UP K F) kvs xs) (k : List Int) (n : Int) (t : Tok) : Paired (UP K F) (kvs.map fun p => if ikey p.1 = some k then (p.1, n) else p) (xs.map (putAt k (.int n t))) := by
  induction h with
  | nil => exact .nil
  | @cons p q ps qs h t' ih =>
    rw [List.map_cons, List.map_cons]
    obtain ⟨h1, h2, t1, h3⟩ := h
    refine .cons ?_ ih
    unfold putAt
    by_cases e : q.1 = k
    · rw [if_pos (by rw [h2, e]), if_pos e]
      exact ⟨h1, h2, t, rfl⟩
    · rw [if_neg (by rw [h2]; exact fun z => e (Option.some.inj z)), if_neg e]
      exact ⟨h1, h2, t1, h3⟩
theorem UP.put (h : Paired (UP K F) kvs xs) {x : DV} {b : Addr} {n : Int} (hx : Hold K F (.ref b) x) (hk : ikey x = some k) (t : Tok) : Paired (UP K F) (uput kvs x k n) (storedH xs k b (.int n t)) := by
  unfold uput storedH
  rw [UP.some_ h k]
  split
  · exact UP.repl h k n t
  · exact Paired.snoc h ⟨hx, hk, t, rfl⟩
theorem UP.mono {F' : Hp} (s : Ext F F') (h : Paired (UP K F) kvs xs) : Paired (UP K F') kvs xs := Paired.mapP h fun _ _ z => ⟨z.1.mono s, z.2⟩
theorem UP.keys (h : Paired (UP K F) kvs xs) : HoldAll K F (xs.map fun x => V.ref x.2.1) (kvs.map (·.1)) := by
  induction h with
  | nil => exact .nil
  | cons h t ih => exact .cons h.1 ih
end
def dDu : DE := fun env Q => Q (.o false (.u [])) env
def dNotInU (j : Nat) (f : DD) : DT := fun env Q => f env fun x e => ∃ b kvs k, e[j]? = some (.o b (.u kvs)) ∧ ikey x = some k ∧ Q (!(uval kvs k).isSome) e
def dIxU (j : Nat) (f : DD) : DD := fun env Q => (∃ b c, env[j]? = some (.o b c)) ∧ f env fun x e => ∃ b kvs k n, e[j]? = some (.o b (.u kvs)) ∧ ikey x = some k ∧ uval kvs k = some n ∧ Q (.int n) e
def wPutU (j : Nat) (fe fi : DD) : WS := fun D env => fe env fun d e1 => (∃ b c, e1[j]? = some (.o b c)) ∧ fi e1 fun x e2 => ∃ b kvs k n, d = .int n ∧ e2[j]? = some (.o b (.u kvs)) ∧ ikey x = some k ∧ kvs.length < LINE ∧ D.nx (e2.set j (.o b (.u (uput kvs x k n))))
def dListU (j : Nat) : DE := fun env Q => ∃ b kvs, env[j]? = some (.o b (.u kvs)) ∧ Q (.o false (.l (kvs.map (·.1)))) env
section
variable {X : Cx} {Z : ZX} {x : Str} {e i a : Expr} {c ci : Nat} {f fi : DD} {p pos pos' p2 : Pos}
theorem pcDu : PEc X Z (.Dict [] [] pos) 0 dDu := ⟨fun _ _ _ q h => q _ _ h, PE_imp pe_dnewU fun σ H Q ⟨B, F, n, env, hn, S, h⟩ p hp => by
  obtain ⟨S', r⟩ := new_own S (oc := .u []) (o := UD p []) hp ⟨[], upd_same, .nil⟩
  exact h _ _ F S' (Ext.refl _) r⟩
theorem ptNotInU (j : Nat) (hu : X.A.units + 65 < cLine) (ha : PEd X Z a c f) (hN : X.N[j]? = some x := by rfl) (hv : Vis X.env.scope x := by first | exact Or.inl rfl | exact Or.inr (Or.inl rfl) | exact Or.inr (Or.inr rfl)) (hd : (x == ("__debug__" : Str)) = false := by decide)
    (hcd : (x == ("__classdict__" : Str)) = false := by decide) (hm : behindInMarks .NotIn (.Name x p) = false := by rfl) : PTd X Z (.Compare a [.NotIn] [.Name x p] pos) c (dNotInU j f) := by
  refine ⟨fun env Q Q' q h => ha.mono _ _ _ (fun y e ⟨b, kvs, k, h1, h2, h3⟩ => ⟨b, kvs, k, h1, h2, q _ _ h3⟩) h, PT_imp (pt_cmpR (op_notInU hu) ha.run (pe_var hN hv hd hcd) hm) fun σ H Q ⟨B, F, n, env, hn, S, h⟩ => ?_⟩
  refine bindD ha.mono hn S h fun y e v H1 F1 g S1 x1 hy => ?_
  obtain ⟨b, kvs, k, h1, h2, h3⟩ := g
  obtain ⟨a, ea, hF, ⟨xs, k1, k2⟩, _⟩ := S1.own h1
  exact ⟨_, ea, a, uval kvs k, rfl, ⟨xs, k, k1, UP.uk k2 S1.same, ik_of S1.same hy h2, UP.at_ k2 k⟩, _, rfl, h3 _ _ S1 x1⟩
theorem pdIxU (j : Nat) (hu : X.A.units + 1 < cLine) (hb : PEd X Z i ci fi) (hs : PlainIx i) (hN : X.N[j]? = some x := by rfl) (hv : Vis X.env.scope x := by first | exact Or.inl rfl | exact Or.inr (Or.inl rfl) | exact Or.inr (Or.inr rfl)) (hd : (x == ("__debug__" : Str)) = false := by decide)
    (hcd : (x == ("__classdict__" : Str)) = false := by decide) : PEd X Z (.Subscript (.Name x p) i pos) ci (dIxU j fi) := by
  refine ⟨fun env Q Q' q h => ⟨h.1, hb.mono _ _ _ (fun y e ⟨b, kvs, k, m, h1, h2, h3, h4⟩ => ⟨b, kvs, k, m, h1, h2, h3, q _ _ h4⟩) h.2⟩, PE_imp (pe_ix (ix_U hu) (pe_var hN hv hd hcd) hb.run hs) fun σ H Q ⟨B, F, n, env, hn, S, ⟨b0, c0, e0⟩, h⟩ => ?_⟩
  obtain ⟨a, ea, _⟩ := S.own e0
  refine ⟨_, ea, bindD hb.mono hn S h fun y e v H1 F1 g S1 x1 hy => ?_⟩
  obtain ⟨b, kvs, k, m, h1, h2, h3, h4⟩ := g
  obtain ⟨a', ea', hF, ⟨xs, k1, k2⟩, _⟩ := S1.own h1
  rw [ea] at ea'
  cases ea'
  have q := UP.at_ k2 k
  rw [h3] at q
  exact ⟨a, m, rfl, ⟨xs, k, k1, UP.uk k2 S1.same, ik_of S1.same hy h2, q⟩, h4 _ _ _ S1 x1 (.int m)⟩
theorem psPutU (j : Nat) (hu : X.A.units + 1 < cLine) (he : PEd X Z e c f) (hi : PEd X Z i ci fi) (hN : X.N[j]? = some x := by rfl) (hv : Vis X.env.scope x := by first | exact Or.inl rfl | exact Or.inr (Or.inl rfl) | exact Or.inr (Or.inr rfl)) (hd : (x == ("__debug__" : Str)) = false := by decide)
    (hcd : (x == ("__classdict__" : Str)) = false := by decide) (hs : swapsWith e (some (.Subscript (.Name x p) i pos')) pos.line X.env = pure false := by rfl) :
    PSd X Z (.Assign [.Subscript (.Name x p) i pos'] e pos) (c + ci) (wPutU j f fi) := by
  refine ⟨fun D D' env l h => he.mono _ _ _ (fun d e1 h => ⟨h.1, hi.mono _ _ _ (fun y e2 ⟨b, kvs, k, m, h0, h1, h2, h3, h4⟩ => ⟨b, kvs, k, m, h0, h1, h2, h3, l.nx _ h4⟩) h.2⟩) h, PS_imp (ps_uput hu (pe_var hN hv hd hcd) hi.run he.run hs) fun D σ H ⟨B, F, n, env, hn, S, h⟩ => ?_⟩
  refine bindD he.mono (by omega) S h fun d e1 v H1 F1 g S1 x1 hvd => ?_
  obtain ⟨⟨b0, c0, e0⟩, g⟩ := g
  obtain ⟨a, ea, _⟩ := S1.own e0
  refine ⟨_, ea, bindD hi.mono (by omega) S1 g fun y e2 u H2 F2 g2 S2 x2 hy => ?_⟩
  obtain ⟨b, kvs, k, m, rfl, h1, h2, h3, h4⟩ := g2
  cases hvd
  obtain ⟨a', ea', hF, ⟨xs, k1, k2⟩, _⟩ := S2.own h1
  rw [ea] at ea'
  cases ea'
  obtain ⟨b2, rfl, hb2⟩ := ik_of S2.same hy h2
  refine ⟨a, b2, m, xs, k, rfl, rfl, rfl, k1, UP.uk k2 S2.same, hb2, by rw [← Paired.length k2, line_eq]; exact h3, fun t => ?_⟩
  have S3 := S2.write h1 ea (o := UD a (storedH xs k b2 (.int m t))) (c' := .u (uput kvs y k m)) ⟨_, upd_same, UP.put k2 hy h2 t⟩
  rw [Nat.add_assoc] at S3
  exact h4 σ _ F2 S3 (x1.trans x2)
theorem pcListU (j : Nat) (hg : Gl X "list") (hm : X.mg "list" = none) (hN : X.N[j]? = some x := by rfl) (hv : Vis X.env.scope x := by first | exact Or.inl rfl | exact Or.inr (Or.inl rfl) | exact Or.inr (Or.inr rfl)) (hd : (x == ("__debug__" : Str)) = false := by decide)
    (hcd : (x == ("__classdict__" : Str)) = false := by decide) (hs : starEach [.Name x p2] X.env = (false, eval (.Name x p2) X.env) :: starEach [] X.env := by rfl) (hc : X.calm = true := by rfl) : PEc X Z (.Call (.Name "list" p) [.Name x p2] [] pos) 0 (dListU j) := by
  refine ⟨fun env Q Q' q ⟨b, kvs, h1, h2⟩ => ⟨b, kvs, h1, q _ _ h2⟩, PE_imp (pe_callTy (call_listU hc) hg hm (by decide +kernel) (pa_cons (pe_var hN hv hd hcd) pa_nil hs) (by decide) (by decide) hs) fun σ H Q ⟨B, F, n, env, hn, S, b, kvs, e0, q⟩ => ?_⟩
  obtain ⟨a, ea, hF, ⟨xs, k1, k2⟩, _⟩ := S.own e0
  refine ⟨_, ea, a, xs, rfl, k1, UP.uk k2 S.same, fun p hp => ?_⟩
  obtain ⟨S', r⟩ := new_own S (oc := .l (kvs.map (·.1))) (o := .lst (xs.map fun x => V.ref x.2.1)) hp ⟨_, upd_same, UP.keys k2⟩
  exact q _ _ F S' (Ext.refl _) r
end
end DL
set_option maxRecDepth 100000
set_option maxHeartbeats 4000000
namespace DL
open PySem PySem.Spec PyProof.Rows L2 LamX
structure NumC (K : PySem.W.Frag) (C : Addr) : Prop where
  self_ : PySem.W.selfFirst K C = true
  i1 : PySem.W.subIn K (.type "int") (.ref C) = some false
  i2 : PySem.W.subIn K (.ref C) (.type "int") = some false
  ob : PySem.W.subIn K (.ref C) (.type "object") = some true
  ne : PySem.W.findIn K (.ref C) "__ne__" = some (some (.builtin "object.__ne__"))
theorem numB_ok {K : PySem.W.Frag} {C : Addr} (h : numB K C = true) : NumC K C := by
  obtain ⟨h1, h⟩ := and_t h
  obtain ⟨h2, h⟩ := and_t h
  obtain ⟨h3, h⟩ := and_t h
  obtain ⟨h4, h⟩ := and_t h
  exact ⟨h1, of_decide_eq_true h2, of_decide_eq_true h3, of_decide_eq_true h4, He.eqO_ok h⟩
section
variable {X : Cx} {Z : ZX} {k : Nat} {C f f' : Addr} {fd : FuncData} {ps : List Str} {sp : Sp} {E : XK} {op : Operator}
theorem ep_back {pins : List (Addr × Obj)} {σ : L2.St} {Q : VK} {u : Value} {s' : Shared} (q : EP X pins σ (fun v H' => (∃ b, v = .ref b) ∧ Q v H') u s') : PySem.W.CmpBack (EP X pins σ Q) u s' := by
  obtain ⟨z, H', I', rz, ⟨b, rfl⟩, q⟩ := q
  obtain rfl : u = Value.ref b := rz
  exact ⟨.ref b, H', I', rfl, q⟩
/-! x != y over an own __eq__ -/
theorem ne_K {prog : Program} {w : World} {A : Around} {E : Value → Shared → Prop} {s : Shared} {K : PySem.W.Frag} {x C L f : Addr} {h₀ : Heap} {m : Str → Option Value} {ox : Obj} {od : Option Obj} {b tb : Value} {Q : Value → Shared → Prop} (hu : A.units + 1 < cLine) (FF : Fr h₀ L s.heap m) (X₀ : K.In h₀) (I : PySem.W.InstAt s.heap x ox C od) (hb : PySem.W.Looks (model prog w) s.heap (typeOf b) tb) (hn : PySem.W.notFirst K C tb = true)
    (hs : PySem.W.findIn K (.ref C) "__eq__" = some (some (.ref f))) (hne : PySem.W.findIn K (.ref C) "__ne__" = some (some (.builtin "object.__ne__"))) (ho : PySem.W.subIn K (.ref C) (.type "object") = some true) (hf : PySem.W.isFn K (.ref f) = true)
    (h : wpAny (model prog w) A.in1 (call (.ref f) [.ref x, b]) (fun v s' => ∃ k, v = .bool k ∧ Q (.bool (!k)) s') E s) : wpAny (model prog w) A (richCompare .NotEq (.ref x) b) Q E s := by
  have KI := X₀.keeps FF.keep
  have body : wpAny (model prog w) A (call (.builtin "object.__ne__") [.ref x, b]) (fun v s' => ∃ k, v = .bool k ∧ Q (.bool k) s') E s := by
    refine wpAny_call (codeAny_call_builtin F.cmp_object.ne.plain F.cmpEntry_ne (PySem.W.check_slot F.cmpKind_ne F.cmpSplit_ne (I.type.andThen (PySem.W.looks_subIn KI ho)) (F.cmpArgs_ne _ _) ?_))
    unfold Builtin.«object.__ne__»
    have e1 : slotArgs "__ne__" 1 (⟨[.ref x, b], []⟩ : Args) = (pure (.ref x, [b]) : Sem (Value × List Value)) := rfl
    refine wpAny_bind (wpAny_of_eq e1 ?_)
    refine wpAny_bind (wpAny_cRoomFor (A := A.in1) hu ?_)
    refine wpAny_bind (PySem.W.ifBound_K KI I hs hf (wpAny_mono h (fun v s' hv => ?_) fun _ _ e => e))
    obtain ⟨k, rfl, hq⟩ := hv
    refine wpAny_bind (wpAny_of_eq (show truthy (.bool k) = pure k from rfl) ?_)
    exact wpAny_pure ⟨_, rfl, hq⟩
  have one : wpAny (model prog w) A (tryCompare (.ref x) "__ne__" b) (fun r s' => ∃ v, r = some v ∧ Q v s') E s := by
    unfold tryCompare
    simp only [callSpecialIfBound?, bindSpecialIfBound?]
    refine wpAny_bind (wpAny_holding (wpAny_bind (wpAny_bind (wpAny_bind (I.type.here ((PySem.W.looks_findIn KI hne).here ?_))))))
    simp only [F.cmp_object.ne.bind]
    refine wpAny_bind (wpAny_askSetting (wpAny_ite ?_))
    have fin : wpAny (model prog w) A (call (.builtin "object.__ne__") ([.ref x] ++ [b]) >>= fun v => pure (some v)) (fun r s' => wpAny (model prog w) A (match r with | some .notImplemented | none => pure none | some v => pure (some v)) (fun r s' => ∃ v, r = some v ∧ Q v s') E s') E s := by
      refine wpAny_bind (wpAny_mono body (fun v s' hv => ?_) fun _ _ e => e)
      obtain ⟨k, rfl, hq⟩ := hv
      exact wpAny_pure (wpAny_pure ⟨_, rfl, hq⟩)
    split
    · exact wpAny_bind (wpAny_pure (wpAny_pure fin))
    · exact wpAny_tryCatch (wpAny_bind (wpAny_pure (wpAny_pure fin)))
  unfold richCompare
  simp only [oneThing_ref]
  refine wpAny_holding (wpAny_bind (wpAny_cRoomFor (by omega) ?_))
  refine wpAny_bind (I.type.here (wpAny_bind (hb.here ?_)))
  split
  · rename_i q
    have e : PySem.W.subIn K tb (.ref C) = some false := by
      rcases Bool.or_eq_true_iff.mp hn with e | e
      · rw [beq_iff_eq.mp e] at q; simp at q
      · exact beq_iff_eq.mp e
    refine wpAny_bind ((PySem.W.looks_subIn KI e).here ?_)
    simp only [Bool.false_eq_true, if_false]
    refine wpAny_bind (wpAny_mono one (fun r s' z => ?_) fun _ _ e => e)
    obtain ⟨v, rfl, hq⟩ := z
    exact wpAny_pure hq
  · refine wpAny_bind (wpAny_pure ?_)
    simp only [Bool.false_eq_true, if_false]
    refine wpAny_bind (wpAny_mono one (fun r s' z => ?_) fun _ _ e => e)
    obtain ⟨v, rfl, hq⟩ := z
    exact wpAny_pure hq
/-- the callee runs, one call deeper -/
theorem run_fn1 {CX : CXT} {pins : List (Addr × Obj)} {σ : L2.St} {H : Hp} {s : Shared} {Q : VK} {us : List Value} {vs : List V} (F : FnOk X.prog X.w X.K X.mg X.base CX k f fd ps sp) (hr : Room (k + 1) X.A) (hb : Binds X.K fd ps []) (hx : Passes CX X E)
    (I : L2.Inv X pins σ H s) (r : L2.Vals vs us) (h : sp vs H Q E) : wpAny (model X.prog X.w) X.A.in1 (call (.ref f) us) (EP X pins σ Q) X.xe s := by
  have hl : (us ++ ([] : List Value)).length = ps.length := by rw [List.append_nil, ← r.length]; exact F.len _ _ _ _ h
  have hbb := hb s us I.kIn hl
  rw [List.append_nil] at hbb
  refine wpAny_call (codeAny_mono (F.run X.A.in1 X.stack s H ⟨us, []⟩ us vs Q E hr.in1 I.env0.in1 hbb r h) fun r s' hq => ?_)
  cases r with
  | error e => exact hx pins σ H s e s' I hq
  | ok fl =>
    cases fl with
    | ret u => exact I.after hq
    | next => exact False.elim hq
    | brk => exact False.elim hq
    | cont => exact False.elim hq
theorem op_neO {CX : CXT} (N : NumC X.K C) (F : FnOk X.prog X.w X.K X.mg X.base CX k f fd ps sp) (hr : Room (k + 1) X.A) (hs : PySem.W.findIn X.K (.ref C) "__eq__" = some (some (.ref f))) (hf : PySem.W.isFn X.K (.ref f) = true) (hb : Binds X.K fd ps []) (hx : Passes CX X E) : OpR X (compareOp .NotEq) (fun x y H Q => rEqO C sp E X.K x y H fun v H' => ∃ k, v = .bl k ∧ Q (.bl (!k)) H') := by
  intro pins s σ H x y v u Q I rx ry ⟨⟨a, dx, fs, e, ha⟩, ⟨t, ht, hn⟩, h⟩
  subst e
  obtain rfl : v = Value.ref a := rx
  obtain ⟨mA, J, _⟩ := ins_get I.hok ha
  obtain ⟨od, J, _⟩ := J.look
  obtain ⟨P, kx, kp, _⟩ := kit_of I ry ht
  obtain ⟨m, hF⟩ := I.fr
  show wpAny _ _ (richCompare .NotEq (.ref a) u) _ _ s
  refine ne_K (tb := t) (by have := hr.units0; have := hr.un; omega) hF I.ok.mod.kin J (kx.ty _ _ I.kIn kp) hn hs N.ne N.ob hf ?_
  refine wpAny_mono (run_fn1 (vs := [.ref a, y]) F hr hb hx I (.cons (show RelV (.ref a) (.ref a) from rfl) (.cons ry .nil)) h) (fun u s' q => ?_) fun _ _ e => e
  obtain ⟨z, H', I', rz, kk, rfl, k2, e, q⟩ := q
  cases e
  cases rz
  exact ⟨kk, rfl, .bl (!kk), H', I', rfl, q⟩
end
end DL
set_option maxRecDepth 100000
set_option maxHeartbeats 4000000
namespace DL
open PySem PySem.Spec PyProof.Rows L2 LamX
/-! ### own operators by data -/
section
variable {X : Cx} {Z : ZX} {con : Con} {cf : Nat}
/-- a callee's promise, asked with data -/
theorem con_call {B : Base} {F2 H2 : Hp} {n0 : Nat} {σ : L2.St} {e2 : List Cell} {vs : List V} {xs : List DV} {R : Cell → Prop} {Q : VK} (S2 : SOk B X.K Z F2 H2 n0 σ e2) (mc : ConMono con) (hv : HoldAll X.K F2 vs xs) (hn : n0 + cf ≤ Z.M)
    (h2 : con (xs.map Cell.d) (fun r _ => R r) fun C' fs _ => Z.G C' fs e2) (q : ∀ r v H3 F3, R r → SOk B X.K Z F3 H3 (n0 + cf) σ e2 → Ext F2 F3 → Res B X.K F3 H3 (n0 + cf) σ e2 v r → Q v H3) : SpD X.K Z.T cf con vs H2 Q Z.E := by
  have hargs : ArgsOk X.K F2 σ vs (argsD xs) := argsD_ok hv
  have hnd : (borIx (argsD xs)).Nodup := by rw [borIx_argsD]; exact List.nodup_nil
  have hal : allOwn e2 (borIx (argsD xs)) := by rw [borIx_argsD]; trivial
  have hcells := cells_argsD e2 xs
  have p1 := (args_par S2.toCore hargs hal).1
  have p2 := ArgsOk.nodup S2.toCore hargs hnd hal
  rw [hcells] at p1 p2
  refine ⟨F2, n0, _, Z.M, ⟨by omega, Z.ml⟩, S2.same, S2.tb, p1, p2, mc _ _ _ _ _ (fun r os h v H3 F3 pd => ?_) (fun C2 fs2 os gx d m2 H3 F3 g1 g2 px => ?_) h2⟩
  · have pd' := pd
    rw [← hcells] at pd'
    obtain ⟨S3, r3⟩ := S2.call hargs hnd hal (Nat.le_add_right _ _) pd'
    rw [borIx_argsD] at S3 r3
    have e0 : putB e2 [] os = e2 := by cases os <;> rfl
    rw [e0] at S3 r3
    exact q r v H3 F3 h S3 pd.ext r3
  · have pf := px.toFrm
    rw [← hcells] at pf
    obtain ⟨S3, _⟩ := S2.toCore.call hargs hnd hal g1 pf
    rw [borIx_argsD] at S3
    have e0 : putB e2 [] os = e2 := by cases os <;> rfl
    rw [e0] at S3
    exact S2.lnk.2 F3 H3 m2 σ e2 C2 d fs2 S3 px.ext g1 g2 px.exc (S2.fresh0 px.new) gx
end
def isO : Cell → Prop
  | .o false _ => True
  | _ => False
def isInt : DV → Prop
  | .int _ => True
  | _ => False
def isIns (C : Addr) : DV → Prop
  | .ins C' _ => C' = C
  | _ => False
def dNeO (C : Addr) (con : Con) (G : Addr → List (Str × DV) → List Cell → Prop) (fa fb : DD) : DD := fun env Q => fa env fun x e1 => fb e1 fun y e2 => (isIns C x ∧ othD C y) ∧ con [.d x, .d y] (fun r _ => match r with
    | .d (.bl k) => Q (.bl (!k)) e2
    | _ => False) fun C' fs _ => G C' fs e2
theorem hold_ins {K : PySem.W.Frag} {F H : Hp} {v : V} {x : DV} {C : Addr} (s : Same F H) (h : Hold K F v x) (hx : isIns C x) : ∃ a dx fs, v = .ref a ∧ H a = some (.ins C dx fs) := by
  cases h with
  | ins e _ _ =>
    obtain rfl := hx
    exact ⟨_, _, _, rfl, s _ _ e⟩
  | _ => exact hx.elim
theorem res_ref {B : Base} {K : PySem.W.Frag} {F H : Hp} {n : Nat} {σ : L2.St} {env : List Cell} {v : V} {r : Cell} (h : Res B K F H n σ env v r) (ho : isO r) : ∃ b, v = .ref b := by
  match r, ho with
  | .o false c, _ =>
    obtain ⟨⟨a, e, _⟩, _⟩ := h
    exact ⟨a, Option.some.inj e⟩
section
variable {X : Cx} {Z : ZX} {k : Nat} {C f f' : Addr} {fd : FuncData} {ps : List Str} {con : Con} {cf ca cb : Nat} {a b : Expr} {fa fb : DD} {pos : Pos} {op : Operator}
theorem oth_ty {F2 H2 : Hp} {u : V} {y : DV} (hC : nclB X.K C = true ∧ IsiC X.K C) (s : Same F2 H2) (hu : Hold X.K F2 u y) (hy : othD C y) : ∃ t, TyX X.K H2 u t ∧ PySem.W.notFirst X.K C t = true := by
  unfold othD at hy
  have other : ∀ T, tyNm y = some T → ∃ t, TyX X.K H2 u t ∧ PySem.W.notFirst X.K C t = true := fun T eT => ⟨_, tyX_of s hu eT, by
    unfold PySem.W.notFirst
    rw [sub_no eT]
    exact Bool.or_eq_true_iff.mpr (.inr rfl)⟩
  cases y with
  | ins C2 fs2 =>
    obtain rfl : C2 = C := hy
    cases hu with
    | ins eb _ _ =>
      exact ⟨.ref C2, .base (.ins (s _ _ eb) hC.2.cls hC.2.fi hC.2.gt hC.2.tk hC.2.mr), by unfold PySem.W.notFirst; simp⟩
  | _ =>
    obtain ⟨T, eT⟩ := Option.isSome_iff_exists.mp hy
    exact other T eT
theorem neO_mono (mc : ConMono con) {G : Addr → List (Str × DV) → List Cell → Prop} (ma : MonoC fa) (mb : MonoC fb) : MonoC (dNeO C con G fa fb) := fun env Q Q' q h => ma _ _ _ (fun x e1 h1 => mb _ _ _ (fun y e2 h2 => ⟨h2.1, mc _ _ _ _ _ (fun r os z => by
    cases r with
    | d d => cases d <;> first | exact q _ _ z | exact z
    | _ => exact z) (fun _ _ _ z => z) h2.2⟩) h1) h
theorem neO_run (mc : ConMono con) (hC : nclB X.K C = true ∧ IsiC X.K C) (ma : MonoC fa) (mb : MonoC fb) {σ : L2.St} {H : Hp} {Q : VK} (h : tDd X.K Z (ca + cb + cf) (dNeO C con Z.G fa fb) σ H Q) : tOp (fun x y H Q => rEqO C (SpD X.K Z.T cf con) Z.E X.K x y H fun v H' => ∃ k, v = .bl k ∧ Q (.bl (!k)) H') (tDd X.K Z ca fa) (tDd X.K Z cb fb) σ H Q := by
  obtain ⟨B, F0, n, env, hn, S, h⟩ := h
  refine bindD ma (by omega) S h fun x e1 v H1 F1 h1 S1 x1 hv => ?_
  refine bindD mb (by omega) S1 h1 fun y e2 u H2 F2 ⟨h0, h2⟩ S2 x2 hu => ?_
  refine ⟨hold_ins S2.same (hv.mono x2) h0.1, oth_ty hC S2.same hu h0.2, con_call (xs := [x, y]) S2 mc (.cons (hv.mono x2) (.cons hu .nil)) (by omega) h2 fun r v H3 F3 hR S3 x3 r3 => ?_⟩
  have e : n + ca + cb + cf = n + (ca + cb + cf) := by omega
  rw [e] at S3 r3
  cases r with
  | d d =>
    cases d with
    | bl kk =>
      obtain ⟨⟨v', ev, hh⟩, _⟩ := r3
      cases ev
      cases hh
      exact ⟨kk, rfl, kk, rfl, hR _ H3 F3 S3 ((x1.trans x2).trans x3) (.bl _)⟩
    | _ => exact hR.elim
  | _ => exact hR.elim
theorem ptNeO (mc : ConMono con) (N : NumC X.K C) (F : FnOk X.prog X.w X.K X.mg X.base (L2.CX X.prog X.w) k f fd ps (SpD X.K Z.T cf con)) (hr : Room (k + 1) X.A) (hs : PySem.W.findIn X.K (.ref C) "__eq__" = some (some (.ref f))) (hf : PySem.W.isFn X.K (.ref f) = true) (hb : Binds X.K fd ps []) (hC : nclB X.K C = true ∧ IsiC X.K C)
    (hx : Passes (L2.CX X.prog X.w) X Z.E) (ha : PEd X Z a ca fa) (hb2 : PEd X Z b cb fb) (hm : behindInMarks .NotEq b = false := by first | exact nomark _ | rfl) : PTd X Z (.Compare a [.NotEq] [b] pos) (ca + cb + cf) (dAsB (dNeO C con Z.G fa fb)) := by
  refine ⟨fun env Q Q' q g => neO_mono mc ha.mono hb2.mono _ _ _ (fun d e g => ?_) g, PT_imp (pt_cmpR (op_neO N F hr hs hf hb hx) ha.run hb2.run hm) fun σ H Q ⟨B, F, n, env, hn, S, g⟩ => ?_⟩
  · cases d <;> first | exact q _ _ g | exact g
  refine neO_run mc hC ha.mono hb2.mono ⟨B, F, n, env, hn, S, neO_mono mc ha.mono hb2.mono _ _ _ (fun d e g v H' F' S' x' hv => ?_) g⟩
  cases hv <;> first | exact ⟨_, rfl, g _ _ S' x'⟩ | exact g.elim
/-- a statement that is not reached -/
theorem psDead {s : Stmt} : PSd X Z s 0 (fun _ _ => False) := ⟨fun _ _ _ _ h => h, ⟨fun pins s σ H D I ⟨_, _, _, _, _, _, h⟩ => h.elim⟩⟩
end
end DL
set_option maxRecDepth 100000
set_option maxHeartbeats 4000000
namespace DL
open PySem PySem.Spec PyProof.Rows L2 LamX
/-! ### sorted(xs), xs tuples of ints -/
def ilt : List Int → List Int → Bool
  | [], [] => false
  | [], _ :: _ => true
  | _ :: _, [] => false
  | a :: as, b :: bs => decide (a < b) || (!decide (b < a) && ilt as bs)
def encL (ks : List Int) : PyData := .tuple (ks.map PyData.int)
theorem toks_ints (ks : List Int) : PySem.W.keyToksAll (ks.map PyData.int) = match ks with
    | [] => [.inl 0]
    | k :: r => .inl 1 :: .inl k :: PySem.W.keyToksAll (r.map PyData.int) := by
  cases ks with
  | nil => rw [List.map_nil, PySem.W.keyToksAll]
  | cons k r => rw [List.map_cons, PySem.W.keyToksAll, PySem.W.keyToks]; rfl
theorem lex_ints : ∀ (a b : List Int), PyProof.Rows.lexLt itemOrd (PySem.W.keyToksAll (a.map PyData.int)) (PySem.W.keyToksAll (b.map PyData.int)) = ilt a b
  | [], [] => by rw [toks_ints]; rfl
  | [], b :: bs => by rw [toks_ints, toks_ints]; rfl
  | a :: as, [] => by rw [toks_ints, toks_ints]; rfl
  | a :: as, b :: bs => by
    rw [toks_ints, toks_ints]
    dsimp only
    rw [lex_self, lex_cons, lex_ints as bs]
    rfl
theorem alike_ints : ∀ (a b : List Int), PySem.W.alikeAll (a.map PyData.int) (b.map PyData.int) = true
  | [], b => by rw [List.map_nil, PySem.W.alikeAll]
  | a :: as, [] => by rw [List.map_nil, List.map_cons, PySem.W.alikeAll]
  | a :: as, b :: bs => by rw [List.map_cons, List.map_cons, PySem.W.alikeAll, alike_ints as bs, PySem.W.alike]; rfl
theorem dp_ints {K : PySem.W.Frag} {H : Hp} : ∀ ks : List Int, DpAll K H (ks.map V.int) (ks.map PyData.int)
  | [] => .nil
  | k :: r => .cons (.int k) (dp_ints r)
theorem ik_dp {K : PySem.W.Frag} {H : Hp} {v : V} {ks : List Int} (h : IK K H v ks) : Dp K H v (encL ks) := by
  obtain ⟨b, rfl, hb⟩ := h
  exact .tup hb (dp_ints ks)
abbrev PS3 := List (V × List Int × DV)
def rSortT (K : PySem.W.Frag) : List V → Hp → VK → Prop := fun us H Q => ∃ (a : Addr) (ps : PS3), us = [V.ref a] ∧ SqL K H a (ps.map (·.1)) ∧ (∀ q ∈ ps, IK K H q.1 q.2.1 ∧ q.2.1 ≠ []) ∧
  ∀ (ps' : PS3) (p : Addr), ps'.Perm ps → ps'.Pairwise (fun x y => ilt y.2.1 x.2.1 = false) → H p = none → Q (.ref p) (upd H p (.lst (ps'.map (·.1))))
theorem zip_vals : ∀ {ps : PS3} {its : List Value}, Vals (ps.map (·.1)) its → ∃ bs : List (Value × V × List Int × DV), bs.map (·.2) = ps ∧ bs.map (·.1) = its ∧ ∀ b ∈ bs, RelV b.2.1 b.1
  | [], _, r => by
    rw [List.map_nil] at r
    cases r
    exact ⟨[], rfl, rfl, fun _ h => nomatch h⟩
  | p :: ps, _, r => by
    rw [List.map_cons] at r
    cases r with
    | cons h t =>
      rename_i u us
      obtain ⟨bs, h1, h2, h3⟩ := zip_vals t
      exact ⟨(u, p) :: bs, by rw [List.map_cons, h1], by rw [List.map_cons, h2], fun b hb => by
        rcases List.mem_cons.mp hb with rfl | hb
        · exact h
        · exact h3 b hb⟩
theorem each_fst {α β : Type} : ∀ {bs : List (α × β)}, PySem.W.EachIs (fun u b => u = b.1 ∧ b ∈ bs) (bs.map (·.1)) bs := by
  have gen : ∀ (l bs : List (α × β)), (∀ b ∈ l, b ∈ bs) → PySem.W.EachIs (fun u b => u = b.1 ∧ b ∈ bs) (l.map (·.1)) l := fun l bs => by
    induction l with
    | nil => intro _; exact .nil
    | cons b l ih => intro h; exact .cons ⟨rfl, h b List.mem_cons_self⟩ (ih fun c hc => h c (List.mem_cons_of_mem _ hc))
  exact fun {bs} => gen bs bs fun _ h => h
theorem each_out {α β : Type} {P : α × β → Prop} : ∀ {out : List α} {bs : List (α × β)}, PySem.W.EachIs (fun u b => u = b.1 ∧ P b) out bs → out = bs.map (·.1)
  | _, _, .nil => rfl
  | _, _, .cons h t => by rw [List.map_cons, ← each_out t, h.1]
section
variable {X : Cx}
theorem vals_fst : ∀ {bs : List (Value × V × List Int × DV)}, (∀ b ∈ bs, RelV b.2.1 b.1) → Vals ((bs.map (·.2)).map (·.1)) (bs.map (·.1))
  | [], _ => .nil
  | b :: bs, h => .cons (h b List.mem_cons_self) (vals_fst fun c hc => h c (List.mem_cons_of_mem _ hc))
theorem depth_all : ∀ ks : List Int, PyData.depthAll (ks.map PyData.int) ≤ 1
  | [] => by rw [List.map_nil, PyData.depthAll]; omega
  | k :: r => by
    rw [List.map_cons, PyData.depthAll, PyData.depth]
    have := depth_all r
    omega
theorem depth_ints (ks : List Int) : (encL ks).depth ≤ 20 := by
  unfold encL
  rw [PyData.depth]
  have := depth_all ks
  omega
theorem cr_sortT (hu : X.A.units + 64 < cLine) : CallR X (.builtin "sorted") (rSortT X.K) := by
  intro pins s σ H vs us Q I r h
  obtain ⟨a, ps, rfl, hs, hk, q⟩ := h
  obtain ⟨its, rv, hl, hz⟩ := I.list hs
  rw [Vals.ref1 r]
  obtain ⟨bs, e1, e2, e3⟩ := zip_vals rv
  have hb : ∀ b ∈ bs, IK X.K H b.2.1 b.2.2.1 ∧ b.2.2.1 ≠ [] := fun b hb => hk b.2 (by rw [← e1]; exact List.mem_map_of_mem hb)
  refine PySem.W.sorted_data (bs := bs) (enc := fun b => encL b.2.2.1) (R := fun u b => u = b.1 ∧ b ∈ bs) hl.isList (by rw [← e2]; exact each_fst) ?_ ?_ ?_ ?_ ?_ fun out ho eo => ?_
  · rw [← e2]
    refine (each_fst (bs := bs)).mono fun u b hub => ?_
    obtain ⟨rfl, hm⟩ := hub
    exact Dp.reads I _ _ _ (ik_dp (hb b hm).1) (e3 b hm)
  · intro d hd d' hd'
    obtain ⟨b, _, rfl⟩ := List.mem_map.mp hd
    obtain ⟨b', _, rfl⟩ := List.mem_map.mp hd'
    show PySem.W.alike (encL _) (encL _) = true
    unfold encL
    rw [PySem.W.alike]
    exact alike_ints _ _
  · refine .inl fun d hd => ?_
    obtain ⟨b, hm, rfl⟩ := List.mem_map.mp hd
    have := (hb b hm).2
    show ∃ x r, encL b.2.2.1 = _
    cases e : b.2.2.1 with
    | nil => exact absurd e this
    | cons k r => exact ⟨_, _, rfl⟩
  · have : bs.length = (ps.map (·.1)).length := by rw [← e1, List.length_map, List.length_map]
    omega
  · intro b _
    have := depth_ints b.2.2.1
    omega
  · have eo2 := each_out eo
    subst eo2
    have hp : (bs.mergeSort (PySem.W.dataLe false fun b => encL b.2.2.1)).Perm bs := List.mergeSort_perm _ _
    obtain ⟨c, hc⟩ := PyProof.Rows.sortedAll_at s.heap its ((bs.mergeSort (PySem.W.dataLe false fun b => encL b.2.2.1)).map (·.1)).toArray
    have ev := vals_fst (bs := bs.mergeSort (PySem.W.dataLe false fun b => encL b.2.2.1)) fun b hb => e3 b (hp.mem_iff.mp hb)
    have hlen : (((bs.mergeSort (PySem.W.dataLe false fun b => encL b.2.2.1)).map (·.2)).map (·.1)).length ≤ sizeLine := by
      rw [List.length_map, List.length_map, hp.length_eq]
      have : bs.length = (ps.map (·.1)).length := by rw [← e1, List.length_map, List.length_map]
      omega
    refine ⟨.ref _, upd H (s.heap.objs.size + 1) (.lst (((bs.mergeSort (PySem.W.dataLe false fun b => encL b.2.2.1)).map (·.2)).map (·.1))), I.laid (t' := s.toks) (fun _ _ => PyProof.Rows.sortedAll_old) (Nat.le_succ _) ⟨hlen, _, c, ev, hc⟩, rfl, q _ _ (by rw [← e1]; exact hp.map _) ?_ (I.hok.fresh (Nat.le_succ _))⟩
    refine List.pairwise_map.mpr ((PySem.W.sort_pairwise (PySem.W.sortLe_total (listOrd itemOrd) false fun b : Value × V × List Int × DV => PySem.W.keyToks (encL b.2.2.1)) bs).imp fun {x y} hxy => ?_)
    have hxy : (!PyProof.Rows.lexLt itemOrd (PySem.W.keyToks (encL y.2.2.1)) (PySem.W.keyToks (encL x.2.2.1))) = true := hxy
    unfold encL at hxy
    rw [PySem.W.keyToks, PySem.W.keyToks, lex_ints] at hxy
    simpa using hxy
end
def ikL (x : DV) : List Int := (ikey x).getD []
def gSortT : DV → (Cell → Prop) → Prop := fun x Q => match x with
  | .lst xs => (∀ x ∈ xs, ∃ k r, ikey x = some (k :: r)) ∧ ∀ ys : List DV, ys.Perm xs → ys.Pairwise (fun x y => ilt (ikL y) (ikL x) = false) → Q (.o false (.l ys))
  | _ => False
theorem zip_holdT {K : PySem.W.Frag} {F H : Hp} (s : Same F H) : ∀ {vs : List V} {xs : List DV}, HoldAll K F vs xs → (∀ x ∈ xs, ∃ k r, ikey x = some (k :: r)) → ∃ ps : PS3, ps.map (·.1) = vs ∧ ps.map (·.2.2) = xs ∧ ∀ q ∈ ps, Hold K F q.1 q.2.2 ∧ ikey q.2.2 = some q.2.1 ∧ q.2.1 ≠ []
  | _, _, .nil, _ => ⟨[], rfl, rfl, fun _ h => nomatch h⟩
  | _, _, .cons (v := v) (d := d) h t, hx => by
    obtain ⟨k, r, e⟩ := hx d List.mem_cons_self
    obtain ⟨ps, h1, h2, h3⟩ := zip_holdT s t fun x m => hx x (List.mem_cons_of_mem _ m)
    exact ⟨(v, k :: r, d) :: ps, by rw [List.map_cons, h1], by rw [List.map_cons, h2], fun q hq => by
      rcases List.mem_cons.mp hq with rfl | hq
      · exact ⟨h, e, by simp⟩
      · exact h3 q hq⟩
theorem unzip_holdT {K : PySem.W.Frag} {F : Hp} : ∀ {ps : PS3}, (∀ q ∈ ps, Hold K F q.1 q.2.2) → HoldAll K F (ps.map (·.1)) (ps.map (·.2.2))
  | [], _ => .nil
  | q :: ps, h => .cons (h q List.mem_cons_self) (unzip_holdT fun c hc => h c (List.mem_cons_of_mem _ hc))
theorem op1SortT {K : PySem.W.Frag} : Op1 K (rSortT K) gSortT := by
  refine ⟨fun x Q Q' q g => ?_, fun B Z F H n σ env v x Q S hv g => ?_⟩
  · cases x <;> first | exact ⟨g.1, fun ys h1 h2 => q _ (g.2 ys h1 h2)⟩ | exact g
  · cases x with
    | lst xs =>
      obtain ⟨a, vs, rfl, h1, h2⟩ := hv.lst S.same
      obtain ⟨ps, e1, e2, h3⟩ := zip_holdT S.same h2 g.1
      refine ⟨a, ps, rfl, by rw [e1]; exact SqL.of h1, fun q hq => ⟨ik_of S.same (h3 q hq).1 (h3 q hq).2.1, (h3 q hq).2.2⟩, fun ps' p hp hw hn => ?_⟩
      have hh := unzip_holdT (ps := ps') fun q hq => (h3 q (hp.mem_iff.mp hq)).1
      obtain ⟨S', r⟩ := new_lst S hh hn
      refine g.2 (ps'.map (·.2.2)) (by rw [← e2]; exact hp.map _) (List.pairwise_map.mpr ?_) _ _ F S' (Ext.refl _) r
      refine hw.imp_of_mem fun {x y} mx my hxy => ?_
      unfold ikL
      rw [(h3 x (hp.mem_iff.mp mx)).2.1, (h3 y (hp.mem_iff.mp my)).2.1]
      exact hxy
    | _ => exact g.elim
section
variable {X : Cx} {Z : ZX} {a : Expr} {ca : Nat} {f : DD} {p pos : Pos}
theorem pcSortT (hu : X.A.units + 64 < cLine) (hg : Gl X "sorted") (hm : X.mg "sorted" = none) (ha : PVd X Z a ca f) (hs : starEach [a] X.env = (false, eval a X.env) :: starEach [] X.env := by rfl) : PEc X Z (.Call (.Name "sorted" p) [a] [] pos) ca (dOp1 gSortT f) := PEc.b1 op1SortT (cr_sortT hu) (by decide +kernel) ha hg hm (hs := hs)
end
end DL
set_option maxRecDepth 100000
set_option maxHeartbeats 4000000
namespace DL
open PySem PySem.Spec PyProof.Rows L2 LamX
/-! ### [.. for .. in .. for .. in ..] -/
def goLcB (vs : List Nat) (g : DG) (t : DT) (f : DD) (Q : List DV → List Cell → Prop) : List DV → List DV → List Cell → Prop
  | [], acc, env => Q acc env
  | d :: ds, acc, env => g d (wipeD env vs) fun e2 => t e2 fun k e3 => if k = true then f e3 fun y e4 => acc.length < LINE ∧ goLcB vs g t f Q ds (acc ++ [y]) e4 else goLcB vs g t f Q ds acc e3
theorem goLcB_mono {vs : List Nat} {g : DG} {t : DT} {f : DD} (mg : ∀ d env Q Q', (∀ e, Q e → Q' e) → g d env Q → g d env Q') (mt : MonoC t) (mf : MonoC f) {Q Q' : List DV → List Cell → Prop} (q : ∀ a e, Q a e → Q' a e) :
    ∀ ds acc env, goLcB vs g t f Q ds acc env → goLcB vs g t f Q' ds acc env
  | [], _, _, h => q _ _ h
  | d :: ds, acc, env, h => mg _ _ _ _ (fun e2 h2 => mt _ _ _ (fun k e3 h3 => by
      cases k with
      | true => exact mf _ _ _ (fun y e4 h4 => ⟨h4.1, goLcB_mono mg mt mf q ds _ _ h4.2⟩) h3
      | false => exact goLcB_mono mg mt mf q ds _ _ h3) h2) h
def goLc2 (vs vs1 : List Nat) (g : DG) (t : DT) (i1 : DI) (g1 : DG) (t1 : DT) (f : DD) (Q : List DV → List Cell → Prop) : List DV → List DV → List Cell → Prop
  | [], acc, env => Q acc env
  | d :: ds, acc, env => g d (wipeD env vs) fun e2 => t e2 fun k e3 => if k = true then i1 e3 fun ds1 e4 => goLcB vs1 g1 t1 f (fun acc' e5 => goLc2 vs vs1 g t i1 g1 t1 f Q ds acc' e5) ds1 acc e4 else goLc2 vs vs1 g t i1 g1 t1 f Q ds acc e3
theorem goLc2_mono {vs vs1 : List Nat} {g g1 : DG} {t t1 : DT} {i1 : DI} {f : DD} (mg : ∀ d env Q Q', (∀ e, Q e → Q' e) → g d env Q → g d env Q') (mt : MonoC t) (mi : MonoC i1) (mg1 : ∀ d env Q Q', (∀ e, Q e → Q' e) → g1 d env Q → g1 d env Q') (mt1 : MonoC t1) (mf : MonoC f) {Q Q' : List DV → List Cell → Prop} (q : ∀ a e, Q a e → Q' a e) :
    ∀ ds acc env, goLc2 vs vs1 g t i1 g1 t1 f Q ds acc env → goLc2 vs vs1 g t i1 g1 t1 f Q' ds acc env
  | [], _, _, h => q _ _ h
  | d :: ds, acc, env, h => mg _ _ _ _ (fun e2 h2 => mt _ _ _ (fun k e3 h3 => by
      cases k with
      | true => exact mi _ _ _ (fun ds1 e4 h4 => goLcB_mono mg1 mt1 mf (fun a e h5 => goLc2_mono mg mt mi mg1 mt1 mf q ds a e h5) _ _ _ h4) h3
      | false => exact goLc2_mono mg mt mi mg1 mt1 mf q ds _ _ h3) h2) h
def dLc2 (vs vs1 : List Nat) (i : DI) (g : DG) (t : DT) (i1 : DI) (g1 : DG) (t1 : DT) (f : DD) : DE := fun env Q => i env fun ds e => noOwn e vs ∧ goLc2 vs vs1 g t i1 g1 t1 f (fun acc e' => Q (.o false (.l acc)) (backD e e' vs)) ds [] e
/-- the list that is made: no slot knows it -/
structure NewL (K : PySem.W.Frag) (B : Base) (F H : Hp) (σ : L2.St) (env : List Cell) (D : Addr) (av : List V) (ad : List DV) : Prop where
  hD : H D = some (.lst av)
  hF : F D = none
  h0 : B.H0 D = none
  all : HoldAll K F av ad
  no : ∀ (i : Nat) (b' : Bool) (c' : OC) (a' : Addr), env[i]? = some (.o b' c') → σ[i]? = some (some (.ref a')) → D ∉ fp H a' c'
section
variable {K : PySem.W.Frag} {B : Base} {Z Z' : ZX} {F F' H H' : Hp} {n n' : Nat} {σ σ' : L2.St} {env env' : List Cell} {D : Addr} {av av' : List V} {ad ad' : List DV} {vs : List Nat}
theorem NewL.wipe (A : NewL K B F H σ env D av ad) : NewL K B F H (L2.wipe σ vs) (wipeD env vs) D av ad := ⟨A.hD, A.hF, A.h0, A.all, fun i b' c' a' ec ea => by
  rcases wipeD_get ec with ⟨_, z⟩ | ⟨h1, h2⟩
  · cases z
  · rw [(wipe_off vs).2 i h1] at ea
    exact A.no i b' c' a' h2 ea⟩
/-- behind a walk in the state laid aside: the list stands -/
theorem NewL.aside (A : NewL K B F H σ env D av ad) (S : SOk B K Z F H n σ env) (T : SOk (reb B F H σ env) K Z' F' H' n' σ' env') (x : Ext F F') : NewL K B F' H' σ' env' D av ad := by
  obtain ⟨⟨q1, q2⟩, q3⟩ := S.aside T A.hD rfl (.inl A.h0) A.hF A.no
  exact ⟨q1.trans A.hD, q2, A.h0, A.all.mono x, q3⟩
/-- a new content -/
theorem NewL.put (A : NewL K B F H σ env D av ad) (S : SOk B K Z F H n σ env) (h : HoldAll K F av' ad') : SOk B K Z F (upd H D (.lst av')) n σ env ∧ NewL K B F (upd H D (.lst av')) σ env D av' ad' := by
  refine ⟨S.poke A.hD rfl (.inl A.h0) A.hF A.no, upd_same, A.hF, A.h0, h, fun j b' c' a' ec ea => ?_⟩
  have ef : fp (upd H D (.lst av')) a' c' = fp H a' c' := fp_congr fun y hy => upd_ne (by rintro rfl; exact A.no j b' c' a' ec ea hy)
  rw [ef]
  exact A.no j b' c' a' ec ea
theorem NewL.item (A : NewL K B F H σ env D av ad) (S : SOk B K Z F H n σ env) (s : Same H H') (x : Ext F F') (f : ∀ a, (H a).isSome = true → F' a = F a) : NewL K B F' H' σ env D av ad := by
  refine ⟨s _ _ A.hD, (f D (by rw [A.hD]; rfl)).trans A.hF, A.h0, A.all.mono x, fun i b' c' a' e1 e2 z => ?_⟩
  obtain ⟨q1, q2, _⟩ := S.toCore.ownAt e1 e2
  have ef : fp H' a' c' = fp H a' c' := fp_congr fun y hy => by
    obtain ⟨o, eo, _⟩ := q2.pl y hy
    rw [eo]
    exact s _ _ eo
  rw [ef] at z
  exact A.no i b' c' a' e1 e2 z
end
/-- the inner loop -/
theorem lcB_data {K : PySem.W.Frag} {Z : ZX} {vs js : List Nat} {g : DG} {t : DT} {f : DD} {ct ce : Nat} (mg : ∀ d env Q Q', (∀ e, Q e → Q' e) → g d env Q → g d env Q') (mt : MonoC t) (mf : MonoC f) (hjs : ∀ j ∈ js, j ∈ vs)
    {J : It} {ds : List DV} {B : Base} {F H0 : Hp} {n m : Nat} {σ : L2.St} {e : List Cell} (S : SOk B K Z.calm F H0 n σ e) (wk : WalkD K B.lk F J ds) (nob : ∀ p ∈ B.bs, p.1 ∉ vs) {D : Addr} {av0 : List V} {ad0 : List DV} (A0 : NewL K B F H0 σ e D av0 ad0) {P : List DV → List Cell → Prop} (go : goLcB vs g t f P ds ad0 e)
    (hm : n + LINE * (ct + ce) ≤ m) (hM : m ≤ Z.M) {N : Hp → Prop}
    (fin : ∀ acc av' e' H' F', P acc e' → SOk B K Z.calm F' H' m (wipe σ vs) (wipeD e' vs) → Ext F F' → NewL K B F' H' (wipe σ vs) (wipeD e' vs) D av' acc → N H') :
    ∃ W : Nat → Nat → Hp → Prop, (∃ m, W 0 m H0) ∧ ∀ i m H, W i m H →
      (J.stop i H ∧ N H) ∨ (J.go i H ∧ ∃ Nx : Hp → Prop, (∀ H', Nx H' → ∃ m', m' < m ∧ W (i + 1) m' H') ∧ ∀ x H', J.yld i H x H' → tDg K Z.calm js g x (wipe σ vs) H' fun σ2 H2 => wipe σ2 vs = wipe σ vs ∧ tDt K Z.calm ct t σ2 H2 fun b H3 =>
        if b = true then tDd K Z.calm ce f σ2 H3 fun y H4 => ∃ acc, H4 D = some (.lst acc) ∧ acc.length < sizeLine ∧ Nx (upd H4 D (.lst (acc ++ [y]))) else Nx H3) := by
  have lenL := wk.len
  let Inv := fun (i : Nat) (H : Hp) => i ≤ ds.length ∧ ∃ (F' : Hp) (env' : List Cell) (av : List V) (ad : List DV), SOk B K Z.calm F' H (n + i * (ct + ce)) (wipe σ vs) (wipeD env' vs) ∧ Ext F F' ∧ NewL K B F' H (wipe σ vs) (wipeD env' vs) D av ad ∧ goLcB vs g t f P (ds.drop i) ad env'
  have start : Inv 0 H0 := ⟨Nat.zero_le _, F, e, av0, ad0, by rw [Nat.zero_mul]; exact S.wipe nob, Ext.refl _, A0.wipe, go⟩
  refine ⟨fun i m H => m = ds.length - i ∧ Inv i H, ⟨_, rfl, start⟩, ?_⟩
  rintro i _ H ⟨rfl, hi, F2, env2, av, ad, S2, x2, A2, go2⟩
  have hmul : i * (ct + ce) ≤ LINE * (ct + ce) := Nat.mul_le_mul_right _ (Nat.le_trans hi lenL)
  by_cases hlt : i < ds.length
  · have hmul2 : (i + 1) * (ct + ce) ≤ LINE * (ct + ce) := Nat.mul_le_mul_right _ (Nat.le_trans hlt lenL)
    rw [Nat.succ_mul] at hmul2
    refine .inr ⟨wk.goes i H F2 x2 S2.lk S2.same hlt, Inv (i + 1), fun H' q => ⟨_, by omega, rfl, q⟩, fun v H3 y => ?_⟩
    obtain ⟨d, F3, ed, S3, x3, hd, s3, f3⟩ := wk.item x2 S2 hlt y
    have edr : ds.drop i = d :: ds.drop (i + 1) := by
      rw [List.drop_eq_getElem_cons hlt]
      congr 1
      exact (List.getElem?_eq_some_iff.mp ed).2
    rw [edr] at go2
    have A3 := A2.item S2 s3 x3 f3
    refine ⟨_, F3, _, wipeD env2 vs, d, S3.reb, hd, mg _ _ _ _ (fun e4 q σ4 T4 o4 => ?_) go2⟩
    have ew : wipe σ4 vs = wipe σ vs := wipe_eq (o4.mono hjs)
    refine ⟨ew, bindT mt (by show _ ≤ Z.M; omega) T4 q fun b e5 H5 F5 q5 T5 x5 => ?_⟩
    have done : ∀ {F' H' : Hp} {k : Nat} {e' : List Cell} {ad' : List DV} {av' : List V}, n + i * (ct + ce) ≤ k → k ≤ n + (i + 1) * (ct + ce) → SOk (reb B F3 H3 (wipe σ vs) (wipeD env2 vs)) K Z.calm F' H' k σ4 e' → Ext F3 F' → HoldAll K F' av' ad' → goLcB vs g t f P (ds.drop (i + 1)) ad' e' →
        Inv (i + 1) (upd H' D (.lst av')) := fun {F' H' k e' ad' av'} hk0 hk T x' hh gg => by
      have A4 := A3.aside S3 T x'
      obtain ⟨U, A5⟩ := A4.put (S3.unreb T rfl x' hk0) hh
      have U := U.wipe (vs := vs) nob
      have A5 := A5.wipe (vs := vs)
      rw [ew] at U A5
      exact ⟨hlt, F', e', av', ad', U.mono hk, (x2.trans x3).trans x', A5, gg⟩
    cases b with
    | false =>
      rw [if_neg Bool.false_ne_true] at q5 ⊢
      have A4 := A3.aside S3 T5 x5
      have := done (by omega) (by rw [Nat.succ_mul]; omega) T5 x5 A4.all q5
      rw [show upd H5 D (.lst av) = H5 from by
        funext b
        unfold upd
        split
        · rename_i z; rw [z]; exact A4.hD.symm
        · rfl] at this
      exact this
    | true =>
      rw [if_pos rfl] at q5 ⊢
      refine bindD mf (by show _ ≤ Z.M; omega) T5 q5 fun yd e6 yv H6 F6 q6 T6 x6 hy => ?_
      have A4 := A3.aside S3 T6 (x5.trans x6)
      refine ⟨av, A4.hD, by rw [line_eq, A4.all.length]; exact q6.1, ?_⟩
      exact done (by omega) (by rw [Nat.succ_mul]; omega) T6 (x5.trans x6) (A4.all.append (.one hy)) q6.2
  · have ei : i = ds.length := by omega
    subst ei
    rw [List.drop_length] at go2
    exact .inl ⟨wk.stops H F2 x2 S2.lk S2.same, fin ad av env2 H F2 go2 (S2.mono (by omega)) x2 A2⟩
theorem wipe_sub {σ : L2.St} {vs vs1 : List Nat} (h : ∀ j ∈ vs1, j ∈ vs) : wipe (wipe σ vs1) vs = wipe σ vs := by
  refine List.ext_getElem? fun j => ?_
  by_cases hj : j ∈ vs
  · by_cases hl : j < σ.length
    · rw [wipe_none hj (by rw [wipe_length]; exact hl), wipe_none hj hl]
    · rw [List.getElem?_eq_none (by rw [wipe_length, wipe_length]; omega), List.getElem?_eq_none (by rw [wipe_length]; omega)]
  · rw [(wipe_off vs).2 j hj, (wipe_off vs).2 j hj, (wipe_off vs1).2 j fun z => hj (h j z)]
theorem wipeD_in {env : List Cell} : ∀ {vs : List Nat} {j : Nat}, j ∈ vs → j < env.length → (wipeD env vs)[j]? = some .un
  | v :: vs, j, h, hl => by
    unfold wipeD
    by_cases e : v = j
    · subst e
      exact List.getElem?_set_self (by rw [wipeD_len]; exact hl)
    · rw [List.getElem?_set_ne e]
      exact wipeD_in ((List.mem_cons.mp h).resolve_left fun z => e z.symm) hl
theorem wipeD_off {env : List Cell} : ∀ {vs : List Nat} {j : Nat}, j ∉ vs → (wipeD env vs)[j]? = env[j]?
  | [], j, _ => rfl
  | v :: vs, j, h => by
    simp only [List.mem_cons, not_or] at h
    unfold wipeD
    rw [List.getElem?_set_ne (fun e => h.1 e.symm)]
    exact wipeD_off h.2
theorem wipeD_sub {env : List Cell} {vs vs1 : List Nat} (h : ∀ j ∈ vs1, j ∈ vs) : wipeD (wipeD env vs1) vs = wipeD env vs := by
  refine List.ext_getElem? fun j => ?_
  by_cases hj : j ∈ vs
  · by_cases hl : j < env.length
    · rw [wipeD_in hj (by rw [wipeD_len]; exact hl), wipeD_in hj hl]
    · rw [List.getElem?_eq_none (by rw [wipeD_len, wipeD_len]; omega), List.getElem?_eq_none (by rw [wipeD_len]; omega)]
  · rw [wipeD_off hj, wipeD_off hj, wipeD_off fun z => hj (h j z)]
theorem lc2_data {K : PySem.W.Frag} {Z : ZX} {vs vs1 js js1 : List Nat} {g g1 : DG} {t t1 : DT} {i1 : DI} {f : DD} {ct c1 ct1 ce : Nat} (mg : ∀ d env Q Q', (∀ e, Q e → Q' e) → g d env Q → g d env Q') (mt : MonoC t) (mi : MonoC i1) (mg1 : ∀ d env Q Q', (∀ e, Q e → Q' e) → g1 d env Q → g1 d env Q') (mt1 : MonoC t1) (mf : MonoC f) (hjs : ∀ j ∈ js, j ∈ vs) (hjs1 : ∀ j ∈ js1, j ∈ vs1) (hv : ∀ j ∈ vs1, j ∈ vs)
    {J : It} {ds : List DV} {B : Base} {F H1 : Hp} {n m : Nat} {σ : L2.St} {e : List Cell} (S : SOk B K Z F H1 n σ e) (wk : WalkD K B.lk F J ds) (hb : noOwn e vs) {P : List DV → List Cell → Prop} (go : goLc2 vs vs1 g t i1 g1 t1 f P ds [] e)
    (hm : n + LINE * (ct + (c1 + LINE * (ct1 + ce))) ≤ m) (hM : m ≤ Z.M) {Q : VK}
    (fin : ∀ acc e' D H' F', P acc e' → SOk B K Z F' H' m σ (backD e e' vs) → Ext F F' → Res B K F' H' m σ (backD e e' vs) (.ref D) (.o false (.l acc)) → Q (.ref D) H') :
    ∀ D, H1 D = none → ∃ W : Nat → Nat → Hp → Prop, (∃ m, W 0 m (upd H1 D (.lst []))) ∧ ∀ i m H, W i m H →
      (J.stop i H ∧ Q (.ref D) H) ∨ (J.go i H ∧ ∃ Nx : Hp → Prop, (∀ H', Nx H' → ∃ m', m' < m ∧ W (i + 1) m' H') ∧ ∀ x H', J.yld i H x H' → tDg K Z.calm js g x (wipe σ vs) H' fun σ2 H2 => wipe σ2 vs = wipe σ vs ∧ tDt K Z.calm ct t σ2 H2 fun b H3 =>
        if b = true then tDi K Z.calm c1 i1 σ2 H3 fun J1 H4 => ∃ W1 : Nat → Nat → Hp → Prop, (∃ m, W1 0 m H4) ∧ ∀ j k H, W1 j k H →
          (J1.stop j H ∧ Nx H) ∨ (J1.go j H ∧ ∃ Nx1 : Hp → Prop, (∀ H', Nx1 H' → ∃ k', k' < k ∧ W1 (j + 1) k' H') ∧ ∀ x H', J1.yld j H x H' → tDg K Z.calm js1 g1 x (wipe σ2 vs1) H' fun σ3 H5 => wipe σ3 vs1 = wipe σ2 vs1 ∧ tDt K Z.calm ct1 t1 σ3 H5 fun b H6 =>
            if b = true then tDd K Z.calm ce f σ3 H6 fun y H7 => ∃ acc, H7 D = some (.lst acc) ∧ acc.length < sizeLine ∧ Nx1 (upd H7 D (.lst (acc ++ [y]))) else Nx1 H6)
        else Nx H3) := by
  intro D hD
  have lenL := wk.len
  have nob := S.nobs hb
  have nob1 : ∀ p ∈ B.bs, p.1 ∉ vs1 := fun p hp z => nob p hp (hv _ z)
  generalize hC : ct + (c1 + LINE * (ct1 + ce)) = C at hm
  let Inv := fun (i : Nat) (H : Hp) => i ≤ ds.length ∧ ∃ (F' : Hp) (env' : List Cell) (av : List V) (ad : List DV), SOk B K Z.calm F' H (n + i * C) (wipe σ vs) (wipeD env' vs) ∧ Ext F F' ∧ NewL K B F' H (wipe σ vs) (wipeD env' vs) D av ad ∧ goLc2 vs vs1 g t i1 g1 t1 f P (ds.drop i) ad env'
  have start : Inv 0 (upd H1 D (.lst [])) := by
    obtain ⟨S1, r1⟩ := new_lst S (vs := []) (xs := []) .nil hD
    exact ⟨Nat.zero_le _, F, e, [], [], by rw [Nat.zero_mul]; exact (S1.wipe nob).calm, Ext.refl _, NewL.wipe ⟨upd_same, S.freshF hD, S.fresh0 hD, .nil, fun i b' c' a' ec ea => (r1.2.2 _ _ _ rfl rfl D (List.mem_singleton.mpr rfl)).1 i b' c' a' ec ea⟩, go⟩
  refine ⟨fun i m H => m = ds.length - i ∧ Inv i H, ⟨_, rfl, start⟩, ?_⟩
  rintro i _ H ⟨rfl, hi, F2, env2, av, ad, S2, x2, A2, go2⟩
  have hmul : i * C ≤ LINE * C := Nat.mul_le_mul_right _ (Nat.le_trans hi lenL)
  by_cases hlt : i < ds.length
  · have hmul2 : (i + 1) * C ≤ LINE * C := Nat.mul_le_mul_right _ (Nat.le_trans hlt lenL)
    rw [Nat.succ_mul] at hmul2
    refine .inr ⟨wk.goes i H F2 x2 S2.lk S2.same hlt, Inv (i + 1), fun H' q => ⟨_, by omega, rfl, q⟩, fun v H3 y => ?_⟩
    obtain ⟨d, F3, ed, S3, x3, hd, s3, f3⟩ := wk.item x2 S2 hlt y
    have edr : ds.drop i = d :: ds.drop (i + 1) := by
      rw [List.drop_eq_getElem_cons hlt]
      congr 1
      exact (List.getElem?_eq_some_iff.mp ed).2
    rw [edr] at go2
    have A3 := A2.item S2 s3 x3 f3
    refine ⟨_, F3, _, wipeD env2 vs, d, S3.reb, hd, mg _ _ _ _ (fun e4 q σ4 T4 o4 => ?_) go2⟩
    have ew : wipe σ4 vs = wipe σ vs := wipe_eq (o4.mono hjs)
    refine ⟨ew, bindT mt (by show _ ≤ Z.M; omega) T4 q fun b e5 H5 F5 q5 T5 x5 => ?_⟩
    cases b with
    | false =>
      rw [if_neg Bool.false_ne_true] at q5 ⊢
      have A4 := (A3.aside S3 T5 x5).wipe (vs := vs)
      have U := (S3.unreb T5 rfl x5 (by omega)).wipe (vs := vs) nob
      rw [ew] at A4 U
      exact ⟨hlt, F5, e5, av, ad, U.mono (by rw [Nat.succ_mul]; omega), (x2.trans x3).trans x5, A4, q5⟩
    | true =>
      rw [if_pos rfl] at q5 ⊢
      refine ⟨_, F5, _, e5, by show _ ≤ Z.M; omega, T5, mi _ _ _ (fun ds1 e6 q6 J1 H6 F6 T6 x6 wk6 => ?_) q5⟩
      have A4 := A3.aside S3 T6 (x5.trans x6)
      have U := S3.unreb T6 rfl (x5.trans x6) (by omega)
      refine lcB_data mg1 mt1 mf hjs1 U wk6 nob1 A4 q6 (m := n + (i + 1) * C) (by rw [Nat.succ_mul]; omega) (by rw [Nat.succ_mul]; omega) fun acc av' e7 H7 F7 p7 U7 x7 A7 => ?_
      have U8 := U7.wipe (vs := vs) nob
      have A8 := A7.wipe (vs := vs)
      rw [wipe_sub hv, wipeD_sub hv, ew] at U8 A8
      exact ⟨hlt, F7, e7, av', acc, U8, ((x2.trans x3).trans (x5.trans x6)).trans x7, A8, p7⟩
  · have ei : i = ds.length := by omega
    subst ei
    rw [List.drop_length] at go2
    have U := S.unwipe hb S2 rfl x2 (by omega)
    rw [backD_wipe] at U
    refine .inl ⟨wk.stops H F2 x2 S2.lk S2.same, fin ad env2 D H F2 go2 (U.mono (by omega)) x2 (Res.mk (fun y hy => by cases List.mem_singleton.mp hy; exact A2.hF) ⟨av, A2.hD, A2.all⟩ fun y hy => ⟨fun j b' c' a' ec ea => ?_, by cases List.mem_singleton.mp hy; exact .inl A2.h0⟩)⟩
    cases List.mem_singleton.mp hy
    rcases backD_get ec with ⟨h1, z⟩ | ⟨h1, h2⟩
    · have hl : j < (backD e env2 vs).length := (List.getElem?_eq_some_iff.mp ec).1
      have hl2 : j < e.length := by
        have := U.len
        rw [S.len] at this
        omega
      have ow : (Cell.o b' c').own = true := rfl
      rw [z, hb j h1 _ (by simp [hl2])] at ow
      cases ow
    · have h3 : (wipeD env2 vs)[j]? = some (.o b' c') := by
        have w : ∀ {vs : List Nat}, j ∉ vs → (wipeD env2 vs)[j]? = env2[j]? := by
          intro vs
          induction vs with
          | nil => intro _; rfl
          | cons v vs ih =>
            intro h
            simp only [List.mem_cons, not_or] at h
            unfold wipeD
            rw [List.getElem?_set_ne (fun e => h.1 e.symm)]
            exact ih h.2
        rw [w h1]
        exact h2
      rw [← (wipe_off vs).2 j h1] at ea
      exact A2.no j b' c' a' h3 ea
section
variable {X : Cx} {Z : ZX} {elt tg iter tg1 iter1 : Expr} {ifs ifs1 : List Expr} {scope : Scope} {own : List (Str × Nat)} {vs1 : List Nat} {pos : Pos} {ci ct c1 ct1 ce : Nat} {i i1 : DI} {js js1 : List Nat} {g g1 : DG} {t t1 : DT} {f : DD}
theorem pcLc2 (hN : X.N.Nodup) (hi : PId X Z tg iter ci i) (ok : BlkOk X.N X.env.scope scope own) (hv : ∀ j ∈ vs1, j ∈ own.map (·.2))
    (hg : ∀ (s : Shared) (H : Hp) (C : Addr) (cl : List (Str × Addr)) (fp : List Addr), PGd (X.blk s H scope (compEnvC scope cl C X.env) fp) Z.calm tg js g)
    (ht : ∀ (s : Shared) (H : Hp) (C : Addr) (cl : List (Str × Addr)) (fp : List Addr), PTsd (X.blk s H scope (compEnvC scope cl C X.env) fp) Z.calm ifs ct t)
    (hi1 : ∀ (s : Shared) (H : Hp) (C : Addr) (cl : List (Str × Addr)) (fp : List Addr), PId (X.blk s H scope (compEnvC scope cl C X.env) fp) Z.calm tg1 iter1 c1 i1)
    (hg1 : ∀ (s : Shared) (H : Hp) (C : Addr) (cl : List (Str × Addr)) (fp : List Addr), PGd (X.blk s H scope (compEnvC scope cl C X.env) fp) Z.calm tg1 js1 g1)
    (ht1 : ∀ (s : Shared) (H : Hp) (C : Addr) (cl : List (Str × Addr)) (fp : List Addr), PTsd (X.blk s H scope (compEnvC scope cl C X.env) fp) Z.calm ifs1 ct1 t1)
    (he : ∀ (s : Shared) (H : Hp) (C : Addr) (cl : List (Str × Addr)) (fp : List Addr), PEd (X.blk s H scope (compEnvC scope cl C X.env) fp) Z.calm elt ce f) (s0 : Shared) (hjs : ∀ j ∈ js, j ∈ own.map (·.2)) (hjs1 : ∀ j ∈ js1, j ∈ vs1)
    (hc : X.calm = true := by rfl) (hs : ∀ x, foldedSetIterable iter X.env x = pure x := by intro _; rfl) (hs1 : ∀ env x, foldedSetIterable iter1 env x = pure x := by intro _ _; rfl) :
    PEc X Z (.ListComp elt [⟨tg, iter, ifs, 0⟩, ⟨tg1, iter1, ifs1, 0⟩] scope pos) (ci + LINE * (ct + (c1 + LINE * (ct1 + ce)))) (dLc2 (own.map (·.2)) vs1 i g t i1 g1 t1 f) := by
  have a := hg s0 (fun _ => none) 0 [] []
  have b := ht s0 (fun _ => none) 0 [] []
  have c := he s0 (fun _ => none) 0 [] []
  have d := hi1 s0 (fun _ => none) 0 [] []
  have a1 := hg1 s0 (fun _ => none) 0 [] []
  have b1 := ht1 s0 (fun _ => none) 0 [] []
  refine ⟨fun env Q Q' q h => hi.mono _ _ _ (fun ds e ⟨h1, h2⟩ => ⟨h1, goLc2_mono a.mono b.mono d.mono a1.mono b1.mono c.mono (fun a e => q _ _) ds [] e h2⟩) h, PE_imp (pe_lc2 (wi := tDi X.K Z ci i) (g := tDg X.K Z.calm js g) (tt := tDt X.K Z.calm ct t) (wi1 := tDi X.K Z.calm c1 i1) (g1 := tDg X.K Z.calm js1 g1) (tt1 := tDt X.K Z.calm ct1 t1) (te := tDd X.K Z.calm ce f) hc hN hi.run ok hv (fun s H C cl fp => (hg s H C cl fp).run) (fun s H C cl fp => (ht s H C cl fp).run) (fun s H C cl fp => (hi1 s H C cl fp).run) (fun s H C cl fp => (hg1 s H C cl fp).run) (fun s H C cl fp => (ht1 s H C cl fp).run) (fun s H C cl fp => (he s H C cl fp).run) hs hs1) fun σ H Q h => ?_⟩
  obtain ⟨B, F, n, env, hn, S, h⟩ := h
  refine ⟨B, F, n, env, by omega, S, hi.mono _ _ _ (fun ds e ⟨hb, go⟩ J H1 F1 S1 x1 wk => ?_) h⟩
  exact lc2_data a.mono b.mono d.mono a1.mono b1.mono c.mono hjs hjs1 hv S1 wk hb go (m := n + (ci + LINE * (ct + (c1 + LINE * (ct1 + ce))))) (by omega) hn fun acc e' D H' F' p S' x' r => p (.ref D) H' F' S' (x1.trans x') r
end
end DL
set_option maxRecDepth 100000
set_option maxHeartbeats 4000000
namespace DL
open PySem PySem.Spec PyProof.Rows L2 LamX
/-! ### [.. for k in d], d a dict by data with tuples as keys -/
section
variable {K : PySem.W.Frag} {B : Base} {Z : ZX} {F H : Hp} {n : Nat} {σ : L2.St} {env : List Cell}
theorem SOk.adoptF (S : SOk B K Z F H n σ env) {p : Addr} {vs : List V} (hp : H p = some (.tup vs)) : ∃ F', SOk B K Z F' H n σ env ∧ Same F F' ∧ F' p = some (.tup vs) ∧ ∀ a, a ≠ p → F' a = F a := by
  cases q : F p with
  | some o =>
    have := S.same _ _ q
    rw [hp] at this
    cases this
    exact ⟨F, S, fun _ _ q => q, q, fun _ _ => rfl⟩
  | none =>
    have s1 : Same F (upd F p (.tup vs)) := same_upd q
    have st := S.toCore.step (F' := upd F p (.tup vs)) (H' := H) (Ext.of s1) (Nat.le_refl _) fun i b c a ei si x hx => ⟨rfl, by
      obtain ⟨g1, g2, _⟩ := S.toCore.ownAt ei si
      rw [upd_ne (by
        rintro rfl
        obtain ⟨o, eo, po⟩ := g2.pl x hx
        rw [hp] at eo
        cases eo
        cases po)]
      exact g1 x hx⟩
    refine ⟨upd F p (.tup vs), ⟨⟨fun b u e => ?_, S.len, st.1, st.2, S.fr, fun b hb hn hl => ?_, S.bd, S.lb, fun z hz => ?_, S.bs, S.dom, S.tb⟩, S.lnk.mono (Ext.of s1) (Nat.le_refl _)⟩, s1, upd_same, fun a e => upd_ne e⟩
    · by_cases hb : b = p
      · subst hb; rw [upd_same] at e; cases e; exact hp
      · rw [upd_ne hb] at e; exact S.same _ _ e
    · by_cases e : b = p
      · subst e
        obtain ⟨o, eo⟩ := Option.isSome_iff_exists.mp hb
        have z := S.fr b o eo hn hl
        rw [hp] at z
        rw [z.tup] at eo
        exact .inr ⟨_, eo, rfl⟩
      · unfold TF
        rw [upd_ne e]
        exact S.ff b hb hn hl
    · have r := S.lk z hz
      rw [upd_ne (by intro y; rw [y, q] at r; cases r)]
      exact r
end
theorem lcTN_data {K : PySem.W.Frag} {Z : ZX} {vs js : List Nat} {g : DG} {t : DT} {f : DD} {ct ce : Nat} (mg : ∀ d env Q Q', (∀ e, Q e → Q' e) → g d env Q → g d env Q') (mt : MonoC t) (mf : MonoC f) (hjs : ∀ j ∈ js, j ∈ vs)
    {d : Addr} {od : Obj} {us : List (List Key × V)} {B : Base} {F H1 : Hp} {n m : Nat} {σ : L2.St} {e : List Cell} (S : SOk B K Z F H1 n σ e) (hlk : (d, od, HO.dT us) ∈ B.lk) (lenL : us.length ≤ LINE) (hb : noOwn e vs) {P : List DV → List Cell → Prop} (go : goLcB vs g t f P (us.map fun p => tkD p.1) [] e)
    (hm : n + LINE * (ct + ce) ≤ m) (hM : m ≤ Z.M) {Q : VK}
    (fin : ∀ acc e' D H' F', P acc e' → SOk B K Z F' H' m σ (backD e e' vs) → Ext F F' → Res B K F' H' m σ (backD e e' vs) (.ref D) (.o false (.l acc)) → Q (.ref D) H') :
    ∀ D, H1 D = none → ∃ W : Nat → Nat → Hp → Prop, (∃ m, W 0 m (upd H1 D (.lst []))) ∧ ∀ i m H, W i m H →
      ((Itkt d od us).stop i H ∧ Q (.ref D) H) ∨ ((Itkt d od us).go i H ∧ ∃ Nx : Hp → Prop, (∀ H', Nx H' → ∃ m', m' < m ∧ W (i + 1) m' H') ∧ ∀ x H', (Itkt d od us).yld i H x H' → tDg K Z.calm js g x (wipe σ vs) H' fun σ2 H2 => wipe σ2 vs = wipe σ vs ∧ tDt K Z.calm ct t σ2 H2 fun b H3 =>
        if b = true then tDd K Z.calm ce f σ2 H3 fun y H4 => ∃ acc, H4 D = some (.lst acc) ∧ acc.length < sizeLine ∧ Nx (upd H4 D (.lst (acc ++ [y]))) else Nx H3) := by
  intro D hD
  have nob := S.nobs hb
  let Inv := fun (i : Nat) (H : Hp) => i ≤ us.length ∧ ∃ (F' : Hp) (env' : List Cell) (av : List V) (ad : List DV), SOk B K Z.calm F' H (n + i * (ct + ce)) (wipe σ vs) (wipeD env' vs) ∧ Ext F F' ∧ NewL K B F' H (wipe σ vs) (wipeD env' vs) D av ad ∧ goLcB vs g t f P ((us.map fun p : List Key × V => tkD p.1).drop i) ad env'
  have start : Inv 0 (upd H1 D (.lst [])) := by
    obtain ⟨S1, r1⟩ := new_lst S (vs := []) (xs := []) .nil hD
    exact ⟨Nat.zero_le _, F, e, [], [], by rw [Nat.zero_mul]; exact (S1.wipe nob).calm, Ext.refl _, NewL.wipe ⟨upd_same, S.freshF hD, S.fresh0 hD, .nil, fun i b' c' a' ec ea => (r1.2.2 _ _ _ rfl rfl D (List.mem_singleton.mpr rfl)).1 i b' c' a' ec ea⟩, go⟩
  refine ⟨fun i m H => m = us.length - i ∧ Inv i H, ⟨_, rfl, start⟩, ?_⟩
  rintro i _ H ⟨rfl, hi, F2, env2, av, ad, S2, x2, A2, go2⟩
  have hmul : i * (ct + ce) ≤ LINE * (ct + ce) := Nat.mul_le_mul_right _ (Nat.le_trans hi lenL)
  have hlock : H d = some (.frz od (.dT us)) := S2.same _ _ (S2.lk _ hlk)
  by_cases hlt : i < us.length
  · have hmul2 : (i + 1) * (ct + ce) ≤ LINE * (ct + ce) := Nat.mul_le_mul_right _ (Nat.le_trans hlt lenL)
    rw [Nat.succ_mul] at hmul2
    refine .inr ⟨⟨hlock, hlt⟩, Inv (i + 1), fun H' q => ⟨_, by omega, rfl, q⟩, fun v H3 y => ?_⟩
    obtain ⟨rfl, k, w', q, ek, rfl, hq⟩ := y
    obtain ⟨F3, S3, s3, h3, f3⟩ := S2.adoptF hq
    have x3 : Ext F2 F3 := Ext.of s3
    have hd : Hold K F3 (.ref q) (tkD k) := .tup h3 (hold_keys _)
    have edr : (us.map fun p : List Key × V => tkD p.1).drop i = tkD k :: (us.map fun p : List Key × V => tkD p.1).drop (i + 1) := by
      rw [List.drop_eq_getElem_cons (by rw [List.length_map]; exact hlt), List.getElem_map]
      rw [(List.getElem?_eq_some_iff.mp ek).2]
    rw [edr] at go2
    have A3 : NewL K B F3 H3 (wipe σ vs) (wipeD env2 vs) D av ad := ⟨A2.hD, (f3 D (by
      rintro rfl
      have := A2.hD
      rw [hq] at this
      cases this)).trans A2.hF, A2.h0, A2.all.mono x3, A2.no⟩
    refine ⟨_, F3, _, wipeD env2 vs, _, S3.reb, hd, mg _ _ _ _ (fun e4 q σ4 T4 o4 => ?_) go2⟩
    have ew : wipe σ4 vs = wipe σ vs := wipe_eq (o4.mono hjs)
    refine ⟨ew, bindT mt (by show _ ≤ Z.M; omega) T4 q fun b e5 H5 F5 q5 T5 x5 => ?_⟩
    have done : ∀ {F' H' : Hp} {k : Nat} {e' : List Cell} {ad' : List DV} {av' : List V}, n + i * (ct + ce) ≤ k → k ≤ n + (i + 1) * (ct + ce) → SOk (reb B F3 H3 (wipe σ vs) (wipeD env2 vs)) K Z.calm F' H' k σ4 e' → Ext F3 F' → HoldAll K F' av' ad' → goLcB vs g t f P ((us.map fun p : List Key × V => tkD p.1).drop (i + 1)) ad' e' →
        Inv (i + 1) (upd H' D (.lst av')) := fun {F' H' k e' ad' av'} hk0 hk T x' hh gg => by
      have A4 := A3.aside S3 T x'
      obtain ⟨U, A5⟩ := A4.put (S3.unreb T rfl x' hk0) hh
      have U := U.wipe (vs := vs) nob
      have A5 := A5.wipe (vs := vs)
      rw [ew] at U A5
      exact ⟨hlt, F', e', av', ad', U.mono hk, (x2.trans x3).trans x', A5, gg⟩
    cases b with
    | false =>
      rw [if_neg Bool.false_ne_true] at q5 ⊢
      have A4 := A3.aside S3 T5 x5
      have := done (by omega) (by rw [Nat.succ_mul]; omega) T5 x5 A4.all q5
      rw [show upd H5 D (.lst av) = H5 from by
        funext b
        unfold upd
        split
        · rename_i z; rw [z]; exact A4.hD.symm
        · rfl] at this
      exact this
    | true =>
      rw [if_pos rfl] at q5 ⊢
      refine bindD mf (by show _ ≤ Z.M; omega) T5 q5 fun yd e6 yv H6 F6 q6 T6 x6 hy => ?_
      have A4 := A3.aside S3 T6 (x5.trans x6)
      refine ⟨av, A4.hD, by rw [line_eq, A4.all.length]; exact q6.1, ?_⟩
      exact done (by omega) (by rw [Nat.succ_mul]; omega) T6 (x5.trans x6) (A4.all.append (.one hy)) q6.2
  · have ei : i = us.length := by omega
    subst ei
    rw [List.drop_eq_nil_of_le (by rw [List.length_map]; exact Nat.le_refl _)] at go2
    have U := S.unwipe hb S2 rfl x2 (by omega)
    rw [backD_wipe] at U
    refine .inl ⟨⟨hlock, Nat.le_refl _⟩, fin ad env2 D H F2 go2 (U.mono (by omega)) x2 (Res.mk (fun y hy => by cases List.mem_singleton.mp hy; exact A2.hF) ⟨av, A2.hD, A2.all⟩ fun y hy => ⟨fun j b' c' a' ec ea => ?_, by cases List.mem_singleton.mp hy; exact .inl A2.h0⟩)⟩
    cases List.mem_singleton.mp hy
    rcases backD_get ec with ⟨h1, z⟩ | ⟨h1, h2⟩
    · have hl : j < (backD e env2 vs).length := (List.getElem?_eq_some_iff.mp ec).1
      have hl2 : j < e.length := by
        have := U.len
        rw [S.len] at this
        omega
      have ow : (Cell.o b' c').own = true := rfl
      rw [z, hb j h1 _ (by simp [hl2])] at ow
      cases ow
    · have h3 : (wipeD env2 vs)[j]? = some (.o b' c') := by
        rw [wipeD_off h1]
        exact h2
      rw [← (wipe_off vs).2 j h1] at ea
      exact A2.no j b' c' a' h3 ea
theorem Res.unlockT {B : Base} {K : PySem.W.Frag} {Z : ZX} {F2 H2 : Hp} {n' : Nat} {σ' : L2.St} {env' : List Cell} {d : Addr} {x y : HO} {v : V} {acc : List DV} {T0 : Base} (r : Res T0 K F2 H2 n' σ' env' v (.o false (.l acc))) (h2 : F2 d = some y) (x3 : Ext F2 (upd F2 d x)) (hn : ∀ {z : Addr}, NewAt T0 z → NewAt B z)
    (S2 : Core T0 K Z.T F2 H2 n' σ' env') : Res B K (upd F2 d x) (upd H2 d x) n' σ' env' v (.o false (.l acc)) := by
  obtain ⟨⟨a, e, h1, ⟨vs, g1, g2⟩, _⟩, _, h3⟩ := r
  cases e
  have na : a ≠ d := by
    rintro rfl
    have := h1 a (List.mem_singleton.mpr rfl)
    rw [h2] at this
    cases this
  refine Res.mk (fun z hz => ?_) ⟨vs, (upd_ne na).trans g1, g2.mono x3⟩ fun z hz => ⟨fun i b' c' a' ei si hw => ?_, ?_⟩
  · cases List.mem_singleton.mp hz
    rw [upd_ne na]
    exact h1 a (List.mem_singleton.mpr rfl)
  · cases List.mem_singleton.mp hz
    rw [fp_congr fun w hw => upd_ne (offd S2 h2 ei si w hw)] at hw
    exact (h3 _ _ _ rfl rfl a (List.mem_singleton.mpr rfl)).1 i b' c' a' ei si hw
  · cases List.mem_singleton.mp hz
    exact hn (h3 _ _ _ rfl rfl a (List.mem_singleton.mpr rfl)).2
def dLcTN (j : Nat) (vs : List Nat) (g : DG) (t : DT) (f : DD) : DE := fun env Q => match env[j]? with
  | some (.d (.dt kvs)) => (noOwn env vs ∧ kvs.length ≤ LINE) ∧ goLcB vs g t f (fun acc e' => Q (.o false (.l acc)) (backD env e' vs)) (kvs.map fun p => tkD p.1) [] env
  | _ => False
section
variable {X : Cx} {Z : ZX} {elt tg : Expr} {ifs : List Expr} {scope : Scope} {own : List (Str × Nat)} {pos p1 : Pos} {ct ce : Nat} {js : List Nat} {g : DG} {t : DT} {f : DD} {x : Str}
theorem pcLcTN (j : Nat) (hN : X.N.Nodup) (ok : BlkOk X.N X.env.scope scope own)
    (hg : ∀ (s : Shared) (H : Hp) (C : Addr) (cl : List (Str × Addr)) (fp : List Addr), PGd (X.blk s H scope (compEnvC scope cl C X.env) fp) Z.calm tg js g)
    (ht : ∀ (s : Shared) (H : Hp) (C : Addr) (cl : List (Str × Addr)) (fp : List Addr), PTsd (X.blk s H scope (compEnvC scope cl C X.env) fp) Z.calm ifs ct t)
    (he : ∀ (s : Shared) (H : Hp) (C : Addr) (cl : List (Str × Addr)) (fp : List Addr), PEd (X.blk s H scope (compEnvC scope cl C X.env) fp) Z.calm elt ce f) (s0 : Shared) (hjs : ∀ j ∈ js, j ∈ own.map (·.2))
    (hNx : X.N[j]? = some x := by rfl) (hv : Vis X.env.scope x := by first | exact Or.inl rfl | exact Or.inr (Or.inl rfl) | exact Or.inr (Or.inr rfl)) (hd : (x == ("__debug__" : Str)) = false := by decide)
    (hcd : (x == ("__classdict__" : Str)) = false := by decide)
    (hc : X.calm = true := by rfl) (hs : ∀ z, foldedSetIterable (.Name x p1) X.env z = pure z := by intro _; rfl) :
    PEc X Z (.ListComp elt [⟨tg, .Name x p1, ifs, 0⟩] scope pos) (LINE * (ct + ce)) (dLcTN j (own.map (·.2)) g t f) := by
  have a := hg s0 (fun _ => none) 0 [] []
  have b := ht s0 (fun _ => none) 0 [] []
  have c := he s0 (fun _ => none) 0 [] []
  have pk := pe_lc (g := tDg X.K Z.calm js g) (tt := tDt X.K Z.calm ct t) (te := tDd X.K Z.calm ce f) (pos := pos) hc hN (pi_keys (pe_var (pos := p1) hNx hv hd hcd)) ok (fun s H C cl fp => (hg s H C cl fp).run) (fun s H C cl fp => (ht s H C cl fp).run) (fun s H C cl fp => (he s H C cl fp).run) hs
  refine ⟨fun env Q Q' q h => ?_, PE_imp (pe_or pk (pe_lock pk)) fun σ H Q ⟨B, F, n, env, hn, S, h⟩ => ?_⟩
  · unfold dLcTN at h ⊢
    split at h
    · exact ⟨h.1, goLcB_mono a.mono b.mono c.mono (fun acc e' => q _ _) _ _ _ h.2⟩
    · exact h.elim
  · unfold dLcTN at h
    split at h
    · rename_i kvs ex
      obtain ⟨⟨hb, hl⟩, go⟩ := h
      obtain ⟨v, ev, hv0⟩ := S.dat ex
      obtain ⟨d, us, rfl, rd, hk⟩ := dt_inv hv0
      have hkl : us.length = kvs.length := by
        have := congrArg List.length hk
        rw [List.length_map, List.length_map] at this
        exact this
      have em : (us.map fun p : List Key × V => tkD p.1) = kvs.map fun p => tkD p.1 := by
        have := congrArg (List.map tkD) hk
        rw [List.map_map, List.map_map] at this
        exact this
      rw [← em] at go
      have run : ∀ (od : Obj) (x : HO), Dt2 od us x → F d = some x → ∀ Q0 : VK, (∀ v H2, H2 d = some (.frz od (.dT us)) → Q v (upd H2 d x) → Q0 v H2) → tLc (iKeys fun σ H Q => tVar j σ H Q) (tDg X.K Z.calm js g) (tDt X.K Z.calm ct t) (tDd X.K Z.calm ce f) (own.map (·.2)) σ (upd H d (.frz od (.dT us))) Q0 := fun od x hx hF Q0 hQ => by
        have S1 := S.lockT hx hF
        refine ⟨_, ev, d, od, rfl, .inr ⟨us, upd_same, ?_⟩⟩
        refine lcTN_data (Z := Z.calm) a.mono b.mono c.mono hjs S1 List.mem_cons_self (by omega) hb go (m := n + LINE * (ct + ce)) (Nat.le_refl _) hn fun acc e' D H' F' p S' x' r => ?_
        obtain ⟨S3, x13, x3, nn, h2⟩ := S.unlockT hx hF S' rfl x' (by omega)
        exact hQ _ _ (S'.same _ _ h2) (p (.ref D) _ _ S3 x13 (r.unlockT (Z := Z.calm) h2 x3 nn S'.toCore))
      rcases rd with rd | ⟨od, rd⟩
      · exact .inr ⟨d, .dT us, S.same _ _ rd, trivial, fun od => run od _ (.inl rfl) rd _ fun v H2 h1 h2 => ⟨h1, h2⟩⟩
      · refine .inl ?_
        have e1 : upd H d (.frz od (.dT us)) = H := funext fun z => by
          by_cases ez : z = d
          · subst ez; rw [upd_same]; exact (S.same _ _ rd).symm
          · exact upd_ne ez
        have := run od _ (.inr rfl) rd Q fun v H2 h1 h2 => by
          rw [show upd H2 d (.frz od (.dT us)) = H2 from funext fun z => by
            by_cases ez : z = d
            · subst ez; rw [upd_same]; exact h1.symm
            · exact upd_ne ez] at h2
          exact h2
        rw [e1] at this
        exact this
    · exact h.elim
end
end DL
set_option maxRecDepth 100000
set_option maxHeartbeats 4000000
namespace DL
open PySem PySem.Spec PyProof.Rows L2 LamX
/-! ### dict(xs), xs pairs whose keys are tuples -/
/-- the p-th item is a pair, a key and a value -/
def PairT (K : PySem.W.Frag) (H : Hp) (p : Addr) (kv : List Key × V) : Prop := ∃ b, SqT K H p [.ref b, kv.2] ∧ H b = some (.tup (kv.1.map kV))
section
variable {X : Cx} {pins : List (Addr × Obj)} {σ : L2.St} {H : Hp} {s : Shared}
theorem pairs_ofT (I : L2.Inv X pins σ H s) : ∀ {ps : List Addr} {kvs : List (List Key × V)}, Paired (PairT X.K H) ps kvs →
    ∃ prs : List (List Key × Addr × Value), KT H kvs prs ∧ prs.length = ps.length ∧ ∀ (j : Nat) (q : List Key × Addr × Value), prs[j]? = some q → ∃ b : Addr, ps[j]? = some b ∧ IsTup s.heap b #[.ref q.2.1, q.2.2]
  | _, _, .nil => ⟨[], .nil, rfl, fun j q e => by simp at e⟩
  | _, _, .cons (a := p) (b := kv) h t => by
    obtain ⟨prs, r, hl, hp⟩ := pairs_ofT I t
    obtain ⟨b, h1, h2⟩ := h
    obtain ⟨its, rv, ht, _⟩ := I.tuple h1
    obtain ⟨u, y, ei, ru, ry⟩ := vals2 rv
    subst ei
    cases (show u = Value.ref b from ru)
    refine ⟨(kv.1, b, y) :: prs, .cons ⟨rfl, h2, ry⟩ r, by rw [List.length_cons, List.length_cons, hl], fun j q e => ?_⟩
    cases j with
    | zero =>
      have e' : (kv.1, b, y) = q := Option.some.inj e
      subst e'
      exact ⟨p, rfl, ht⟩
    | succ j =>
      obtain ⟨b', e1, e2⟩ := hp j q (by simpa using e)
      exact ⟨b', by simpa using e1, e2⟩
theorem call_dictPT (hc : X.calm = true) (hu : X.A.units + 64 < cLine) : CallR X (.type "dict") (fun xs H Q => ∃ (a : Addr) (ps : List Addr) (kvs : List (List Key × V)), xs = [.ref a] ∧ SqL X.K H a (ps.map V.ref) ∧ Paired (PairT X.K H) ps kvs ∧ (kvs.map (·.1)).Nodup ∧
    ∀ p, H p = none → Q (.ref p) (upd H p (.dT kvs))) := by
  intro pins s σ H xs us Q I r q
  obtain ⟨a, ps, kvs, ex, hq, hp, hn, q⟩ := q
  subst ex
  obtain ⟨u, eu, rx⟩ := vals1 r
  subst eu
  cases rx
  obtain ⟨its, rv, pl, hz⟩ := I.list hq
  have ei := refs_at rv
  subst ei
  rw [List.length_map] at hz
  obtain ⟨prs, rel, hl, hpr⟩ := pairs_ofT I hp
  obtain ⟨o, n, ho, hc', hd, hdat⟩ := pl
  have ek : prs.map (·.1) = kvs.map (·.1) := by
    clear hpr hl hn q hp
    induction rel with
    | nil => rfl
    | cons h t ih => rw [List.map_cons, List.map_cons, ih, h.1]
  have his : ∀ x ∈ prs, (tupleKind (mixKind X.prog X.w)).is s.heap x.1 x.2.1 := by
    clear hpr hl hn q hp ek
    induction rel with
    | nil => exact fun x hx => nomatch hx
    | cons h t ih =>
      intro x hx
      rcases List.mem_cons.mp hx with e | hx
      · subst e
        exact key_of I.hok (by rw [← h.1]; exact h.2.1)
      · exact ih x hx
  have P := PairArg.list (prog := X.prog) (w := X.w) a (ps.map Value.ref).toArray (fun j => ps.getD j 0) (prs.map fun x => (Value.ref x.2.1, x.2.2))
  refine call_dict_pairsH (knd := tupleKind (mixKind X.prog X.w)) (ps := prs) P (I.ok.hd hc) (show X.A.units + 1 + 1 < cLine by omega) ⟨⟨o, n, ho, hc', hd, hdat⟩, by simp [hl], fun j k v e => ?_⟩ ⟨by simp, fun i key v e => ?_⟩ (fun h' hk x hx => ?_) (by rw [List.length_map, hl]; exact hz) fun h' tk hd' hk => ?_
  · obtain ⟨x, ex, e2⟩ := Option.map_eq_some_iff.mp (show (prs[j]?).map (fun x => (Value.ref x.2.1, x.2.2)) = some (k, v) by rw [← List.getElem?_map]; exact e)
    obtain ⟨b, e1, e3⟩ := hpr j x ex
    cases e2
    refine ⟨?_, ?_⟩
    · simp [e1, List.getD]
    · show PairAt s.heap (ps.getD j 0) _ _
      rw [show ps.getD j 0 = b by simp [List.getD, e1]]
      exact .inl (by obtain ⟨o, h1, h2, m, h3⟩ := e3; exact ⟨o, h1, h2, m, h3⟩)
  · obtain ⟨x, ex, e2⟩ := Option.map_eq_some_iff.mp (show (prs[i]?).map (fun x => (Value.ref x.2.1, x.2.2)) = some (key, v) by rw [← List.getElem?_map]; exact e)
    cases e2
    exact ⟨x.1, x.2.1, ex, rfl⟩
  · obtain ⟨o, items, n, h1, h2, h3, h4⟩ := his x hx
    exact ⟨o, items, n, hk _ _ (Nat.ne_of_lt (Heap.lt_size h1)) (fun z => nomatch z) h1, h2, h3, h4⟩
  · rw [storedAllH_nil_of_nodup prs (by rw [ek]; exact hn)] at hd'
    obtain ⟨q', es, ep, hq', g2, g3, g4, _, g5⟩ := hd'
    have hm : (s.heap.objs.size == sysModules) = false := beq_eq_false_iff_ne.mpr (Nat.ne_of_gt I.big)
    have hlen : kvs.length ≤ sizeLine := by
      rw [Paired.length rel, hl]
      exact hz
    refine ⟨.ref s.heap.objs.size, upd H s.heap.objs.size (.dT kvs), I.laid (t' := tk) (fun b o e => hk b o (fun z => nomatch z) e) (Nat.le_refl _) ?_, rfl, q _ (I.hok.fresh (Nat.le_refl _))⟩
    refine ⟨hlen, hm, prs, rel.keeps fun c ys ec => ?_, q', es, ep, hq', g2, g3, g4, g5⟩
    rw [upd_ne (ne_of_none ec (I.hok.fresh (Nat.le_refl _)))]
    exact ec
end
/-- a pair by data -/
def pairT : DV → Option (List Key × DV)
  | .tup [k, v] => k.tkey.map fun ks => (ks, v)
  | _ => none
def pairsT : List DV → Option (List (List Key × DV))
  | [] => some []
  | x :: xs => (pairT x).bind fun p => (pairsT xs).map (p :: ·)
def gDictPT : DV → (Cell → Prop) → Prop := fun x Q => match x with
  | .lst xs => ∃ kvs, pairsT xs = some kvs ∧ (kvs.map (·.1)).Nodup ∧ Q (.o false (.t kvs))
  | _ => False
theorem pairT_inv {x : DV} {p : List Key × DV} (e : pairT x = some p) : ∃ k, x = .tup [k, p.2] ∧ k.tkey = some p.1 := by
  unfold pairT at e
  split at e
  · rename_i k v
    obtain ⟨ks, e1, rfl⟩ := Option.map_eq_some_iff.mp e
    exact ⟨k, rfl, e1⟩
  · cases e
theorem pairs_hold {K : PySem.W.Frag} {F H : Hp} (s : Same F H) : ∀ {vs : List V} {xs : List DV} {kvs : List (List Key × DV)}, HoldAll K F vs xs → pairsT xs = some kvs → ∃ (ps : List Addr) (us : List (List Key × V)), vs = ps.map V.ref ∧ Paired (PairT K H) ps us ∧ us.map (·.1) = kvs.map (·.1) ∧ HoldAll K F (us.map (·.2)) (kvs.map (·.2))
  | _, _, kvs, .nil, e => by
    cases e
    exact ⟨[], [], rfl, .nil, rfl, .nil⟩
  | _, _, kvs, .cons (d := d) (ds := ds) h t, e => by
    rw [pairsT] at e
    obtain ⟨p, e1, e2⟩ := Option.bind_eq_some_iff.mp e
    obtain ⟨r, e3, rfl⟩ := Option.map_eq_some_iff.mp e2
    obtain ⟨ps, us, h1, h2, h3, h4⟩ := pairs_hold s t e3
    obtain ⟨k, rfl, ek⟩ := pairT_inv e1
    cases h with
    | tup ha hx =>
      rename_i a ws
      cases hx with
      | cons hk hx =>
        cases hx with
        | cons hv hx =>
          cases hx
          rename_i w1 w2
          obtain ⟨b, rfl, hb⟩ := hk.tkey ek
          exact ⟨a :: ps, (p.1, w2) :: us, by rw [List.map_cons, h1], .cons ⟨b, SqT.of (s _ _ ha), s _ _ hb⟩ h2, by rw [List.map_cons, List.map_cons, h3], .cons hv h4⟩
theorem op1DictPT {X : Cx} : Op1 X.K (fun xs H Q => ∃ (a : Addr) (ps : List Addr) (kvs : List (List Key × V)), xs = [.ref a] ∧ SqL X.K H a (ps.map V.ref) ∧ Paired (PairT X.K H) ps kvs ∧ (kvs.map (·.1)).Nodup ∧ ∀ p, H p = none → Q (.ref p) (upd H p (.dT kvs))) gDictPT := by
  refine ⟨fun x Q Q' q g => ?_, fun B Z F H n σ env v x Q S hv g => ?_⟩
  · cases x <;> first | exact (let ⟨kvs, h1, h2, h3⟩ := g; ⟨kvs, h1, h2, q _ h3⟩) | exact g
  · cases x with
    | lst xs =>
      obtain ⟨kvs, e, hn, g⟩ := g
      obtain ⟨a, vs, rfl, h1, h2⟩ := hv.lst S.same
      obtain ⟨ps, us, rfl, h3, h4, h5⟩ := pairs_hold S.same h2 e
      refine ⟨a, ps, us, rfl, SqL.of h1, h3, by rw [h4]; exact hn, fun p hp => ?_⟩
      obtain ⟨S', r⟩ := new_own S (oc := .t kvs) (o := .dT us) hp ⟨us, upd_same, h4, h5⟩
      exact g _ _ F S' (Ext.refl _) r
    | _ => exact g.elim
section
variable {X : Cx} {Z : ZX} {a : Expr} {ca : Nat} {f : DD} {p pos : Pos}
theorem pcDictPT (hu : X.A.units + 64 < cLine) (hg : Gl X "dict") (hm : X.mg "dict" = none) (ha : PVd X Z a ca f) (hs : starEach [a] X.env = (false, eval a X.env) :: starEach [] X.env := by rfl) (hc : X.calm = true := by rfl) : PEc X Z (.Call (.Name "dict" p) [a] [] pos) ca (dOp1 gDictPT f) := PEc.b1T op1DictPT (call_dictPT hc hu) (by decide +kernel) ha hg hm (hs := hs)
end
/-! ### max(xs, default=d), xs ints -/
theorem reads_ints {h : Heap} : ∀ {us : List Value} {ns : List Int}, Vals (ns.map V.int) us → ReadsAll h us (ns.map PyData.int) []
  | us, [], r => by
    rw [List.map_nil] at r
    cases r
    exact .nil
  | us, n :: ns, r => by
    rw [List.map_cons] at r
    cases r with
    | cons h t =>
      obtain ⟨tk, rfl⟩ := h
      exact .cons (as := []) (bs := []) (.int n tk) (reads_ints t)
theorem alikeAll_ints (ns : List Int) : PySem.W.AlikeAll (ns.map PyData.int) := by
  refine ⟨fun x hx y hy => ?_, fun x hx => ?_⟩
  · obtain ⟨a, _, rfl⟩ := List.mem_map.mp hx
    obtain ⟨b, _, rfl⟩ := List.mem_map.mp hy
    rw [PySem.W.alike]
  · obtain ⟨a, _, rfl⟩ := List.mem_map.mp hx
    exact fun z => nomatch z
theorem depthAll_ints : ∀ ns : List Int, PyData.depthAll (ns.map PyData.int) ≤ 1 := depth_all
theorem fold_max : ∀ (ns : List Int) (n : Int), (ns.foldl max n = n ∨ ns.foldl max n ∈ ns) ∧ n ≤ ns.foldl max n ∧ ∀ y ∈ ns, y ≤ ns.foldl max n
  | [], n => ⟨.inl rfl, Int.le_refl _, fun _ h => nomatch h⟩
  | m :: ns, n => by
    obtain ⟨h1, h2, h3⟩ := fold_max ns (max n m)
    rw [List.foldl_cons]
    refine ⟨?_, by omega, fun y hy => ?_⟩
    · rcases h1 with h1 | h1
      · rw [h1]
        by_cases e : n ≤ m
        · exact .inr (by rw [Int.max_eq_right e]; exact List.mem_cons_self)
        · exact .inl (Int.max_eq_left (by omega))
      · exact .inr (List.mem_cons_of_mem _ h1)
    · rcases List.mem_cons.mp hy with rfl | hy
      · omega
      · exact h3 y hy
def rMaxD (K : PySem.W.Frag) : List V → List V → Hp → VK → Prop := fun xs zs H Q => ∃ (a : Addr) (ns : List Int) (d : Int), xs = [.ref a] ∧ SqL K H a (ns.map V.int) ∧ zs = [.int d] ∧ ∀ m, (ns = [] → m = d) → (ns ≠ [] → m ∈ ns ∧ ∀ y ∈ ns, y ≤ m) → Q (.int m) H
section
variable {X : Cx}
theorem cr_maxD (hc : X.calm = true) (hu : X.A.units + 64 < cLine) : CallRK X (.builtin "max") [Str.ofString "default"] (rMaxD X.K) := by
  intro pins s σ H xs zs us ws Q I r rz h
  obtain ⟨a, ns, d, rfl, hs, rfl, q⟩ := h
  obtain ⟨its, rv, hl, _⟩ := I.list hs
  obtain ⟨u, rfl, ru⟩ := vals1 r
  cases ru
  obtain ⟨v, rfl, t, rfl⟩ := vals1 rz
  have hd := depthAll_ints ns
  refine PySem.W.max_list_default (I.ok.hd hc) hl.isList (reads_ints (h := s.heap) (by simpa using rv)) (alikeAll_ints ns) (by omega) (fun e h' tk k => ?_) fun y ys i v h' tk bs e ev rd k => ?_
  · have e : ns = [] := List.map_eq_nil_iff.mp e
    exact ⟨.int d, H, I.kept k, ⟨t, rfl⟩, q d (fun _ => rfl) fun z => absurd e z⟩
  · cases ns with
    | nil => cases e
    | cons n ns =>
      rw [List.map_cons] at e
      injection e with e1 e2
      subst e1 e2
      rw [PySem.W.maxD_ints] at rd
      cases rd with
      | int m tk' =>
        obtain ⟨h1, h2, h3⟩ := fold_max ns n
        refine ⟨.int _, H, I.kept k, ⟨tk', rfl⟩, q _ (fun z => nomatch z) fun _ => ⟨?_, fun y hy => ?_⟩⟩
        · rcases h1 with h1 | h1
          · rw [h1]; exact List.mem_cons_self
          · exact List.mem_cons_of_mem _ h1
        · rcases List.mem_cons.mp hy with rfl | hy
          · exact h2
          · exact h3 y hy
end
end DL
set_option maxRecDepth 100000
set_option maxHeartbeats 4000000
namespace DL
open PySem PySem.Spec PyProof.Rows L2 LamX
/-! ### {k1: v1, k2: v2}, tuples as keys -/
def tDisp2T (tk tv tk2 tv2 : TE) : TE := fun σ H Q => ∀ p, H p = none → tk σ (upd H p (.dT [])) fun x H1 => tv σ H1 fun y H2 => tk2 σ H2 fun x2 H3 => tv2 σ H3 fun y2 H4 => H4 p = some (.dT []) ∧ ∃ (k k2 : List Key) (b b2 : Addr), x = .ref b ∧ H4 b = some (.tup (k.map kV)) ∧ x2 = .ref b2 ∧ H4 b2 = some (.tup (k2.map kV)) ∧ k ≠ k2 ∧ Q (.ref p) (upd H4 p (.dT [(k, y), (k2, y2)]))
def dDisp2T (fa fb fc fd : DD) : DE := fun env Q => fa env fun x e1 => fb e1 fun y e2 => fc e2 fun x2 e3 => fd e3 fun y2 e4 => ∃ k k2, x.tkey = some k ∧ x2.tkey = some k2 ∧ k ≠ k2 ∧ Q (.o false (.t [(k, y), (k2, y2)])) e4
section
variable {X : Cx} {Z : ZX} {pos : Pos} {k v k2 v2 : Expr} {ca cb cc cd : Nat} {fa fb fc fd : DD}
end
end DL
set_option maxRecDepth 100000
set_option maxHeartbeats 4000000
namespace DL
open PySem PySem.Spec PyProof.Rows L2 LamX
/-! ### max(xs, default=i) by data -/
def gMaxD (i : Int) : DV → (Cell → Prop) → Prop := gInts fun ns Q => ∀ m, (ns = [] → m = i) → (ns ≠ [] → m ∈ ns ∧ ∀ y ∈ ns, y ≤ m) → Q (.d (.int m))
theorem op1MaxD {K : PySem.W.Frag} {i : Int} : Op1 K (fun xs H Q => rMaxD K xs [.int i] H Q) (gMaxD i) := by
  refine ⟨fun x Q Q' q g => ?_, fun B Z F H n σ env v x Q S hv g => ?_⟩
  · cases x <;> first | exact optP_mono (fun ns h m h1 h2 => q _ (h m h1 h2)) g | exact g
  · cases x with
    | lst xs =>
      obtain ⟨ns, e, g⟩ := optP_some g
      obtain ⟨a, rfl, h⟩ := view_ints S.same hv e
      exact ⟨a, ns, i, rfl, h, rfl, fun m h1 h2 => g m h1 h2 _ H F S (Ext.refl _) (Res.dat (.int _))⟩
    | _ => exact g.elim
theorem pcMaxD {X : Cx} {Z : ZX} {a : Expr} {ca : Nat} {f : DD} {p pos kpos cpos : Pos} {i : Int} {j : Nat} (hu : X.A.units + 64 < cLine) (hg : Gl X "max") (hm : X.mg "max" = none) (ha : PVd X Z a ca f) (hs : starEach [a] X.env = (false, eval a X.env) :: starEach [] X.env := by rfl)
    (he : backTo pos (starEach [a] X.env) = (false, eval a X.env) :: backTo pos (starEach [] X.env) := by rfl) (hpl : (backTo pos (starEach [a] X.env)).any (·.1) = false := by rfl)
    (hall : (backToKw pos (keywordEach [⟨some "default", .Constant (.int i) j cpos, kpos⟩] X.env)).all (·.1.isSome) = true := by rfl) (hnone : (backToKw pos (keywordEach [⟨some "default", .Constant (.int i) j cpos, kpos⟩] X.env)).any (·.1.isNone) = false := by rfl) (hks : (backToKw pos (keywordEach [⟨some "default", .Constant (.int i) j cpos, kpos⟩] X.env)).filterMap (·.1) = [Str.ofString "default"] := by rfl) (hc : X.calm = true := by rfl) :
    PEc X Z (.Call (.Name "max" p) [a] [⟨some "default", .Constant (.int i) j cpos, kpos⟩] pos) ca (dOp1 (gMaxD i) f) :=
  ⟨mono_op1 (op1MaxD (K := X.K)) ha.mono, PE_imp (pe_callBK (cr_maxD hc hu) hg hm (by decide +kernel) (pa_cons ha.run pa_nil hs) (pk_cons pe_int pk_nil) (by decide) (by decide) he hpl hall hnone hks) fun σ H Q h => op1_run op1MaxD ha h⟩
end DL
set_option maxRecDepth 100000
set_option maxHeartbeats 4000000
namespace DL
open PySem PySem.Spec PyProof.Rows L2 LamX
/-! ### a op b, both of one class -/
def rBinOO (C : Addr) (sp : Sp) (E : XK) : R2 := fun x y H Q => (∃ a dx fs, x = .ref a ∧ H a = some (.ins C dx fs)) ∧ (∃ b dy gs, y = .ref b ∧ H b = some (.ins C dy gs)) ∧ sp [x, y] H (fun v H' => (∃ b, v = .ref b) ∧ Q v H') E
def dBinOO (C : Addr) (con : Con) (G : Addr → List (Str × DV) → List Cell → Prop) (fa fb : DD) : DE := fun env Q => fa env fun x e1 => fb e1 fun y e2 => (isIns C x ∧ isIns C y) ∧ con [.d x, .d y] (fun r _ => isO r ∧ Q r e2) fun C' fs _ => G C' fs e2
section
variable {X : Cx} {Z : ZX} {k : Nat} {C f f' : Addr} {fd : FuncData} {ps : List Str} {sp : Sp} {E : XK} {con : Con} {cf ca cb : Nat} {a b : Expr} {fa fb : DD} {pos : Pos} {op : Operator}
theorem op_binOO {CX : CXT} (N : NumC X.K C) (F : FnOk X.prog X.w X.K X.mg X.base CX k f fd ps sp) (hr : Room k X.A) (hs : PySem.W.findIn X.K (.ref C) (PySem.dunder op.info.2) = some (some (.ref f))) (hf : PySem.W.isFn X.K (.ref f) = true) (hb : Binds X.K fd ps []) (hx : Passes CX X E) : OpR X (binaryOp op) (rBinOO C sp E) := by
  intro pins s σ H x y v u Q I rx ry ⟨⟨a, dx, fs, e, ha⟩, ⟨b, dy, gs, e', hy⟩, h⟩
  subst e e'
  obtain rfl : v = Value.ref a := rx
  obtain rfl : u = Value.ref b := ry
  obtain ⟨mA, J, _⟩ := ins_get I.hok ha
  obtain ⟨od, J, _⟩ := J.look
  obtain ⟨m, hF⟩ := I.fr
  have run := wpAny_mono (run_fn (dvs := []) (ds := []) (vs := [.ref a, .ref b]) F hr hb .nil hx I (.cons (show RelV (.ref a) (.ref a) from rfl) (.cons (show RelV (.ref b) (.ref b) from rfl) .nil)) h) (fun u s' q => ep_back q) fun _ _ e => e
  obtain ⟨mB, J2, _⟩ := ins_get I.hok hy
  obtain ⟨od2, J2, _⟩ := J2.look
  exact PySem.W.binop_K hF I.ok.mod.kin J J2.type N.self_ hs hf run
theorem pcBinOO (mc : ConMono con) (N : NumC X.K C) (F : FnOk X.prog X.w X.K X.mg X.base (L2.CX X.prog X.w) k f fd ps (SpD X.K Z.T cf con)) (hr : Room k X.A) (hs : PySem.W.findIn X.K (.ref C) (PySem.dunder op.info.2) = some (some (.ref f))) (hf : PySem.W.isFn X.K (.ref f) = true) (hb : Binds X.K fd ps [])
    (hx : Passes (L2.CX X.prog X.w) X Z.E) (ha : PEd X Z a ca fa) (hb2 : PEd X Z b cb fb) : PEc X Z (.BinOp a op b pos) (ca + cb + cf) (dBinOO C con Z.G fa fb) := by
  refine ⟨fun env Q Q' q h => ha.mono _ _ _ (fun x e1 h1 => hb2.mono _ _ _ (fun y e2 h2 => ⟨h2.1, mc _ _ _ _ _ (fun r os z => ⟨z.1, q _ _ z.2⟩) (fun _ _ _ z => z) h2.2⟩) h1) h, PE_imp (pe_op (op_binOO N F hr hs hf hb hx) ha.run hb2.run) fun σ H Q ⟨B, F0, n, env, hn, S, h⟩ => ?_⟩
  refine bindD ha.mono (by omega) S h fun x e1 v H1 F1 h1 S1 x1 hv => ?_
  refine bindD hb2.mono (by omega) S1 h1 fun y e2 u H2 F2 ⟨h0, h2⟩ S2 x2 hu => ?_
  refine ⟨hold_ins S2.same (hv.mono x2) h0.1, hold_ins S2.same hu h0.2, con_call (xs := [x, y]) S2 mc (.cons (hv.mono x2) (.cons hu .nil)) (by omega) h2 fun r v H3 F3 hR S3 x3 r3 => ⟨res_ref r3 hR.1, ?_⟩⟩
  have e : n + ca + cb + cf = n + (ca + cb + cf) := by omega
  rw [e] at S3 r3
  exact hR.2 v H3 F3 S3 ((x1.trans x2).trans x3) r3
/-- the names of the operators -/
theorem du_mul {K : PySem.W.Frag} {C f : Addr} (h : PySem.W.findIn K (.ref C) "__mul__" = some (some (.ref f))) : PySem.W.findIn K (.ref C) (PySem.dunder Operator.Mult.info.2) = some (some (.ref f)) := h
end
/-! ### isinstance(x, int) where x may be an object of an own class -/
structure IsiN (K : PySem.W.Frag) (C : Addr) : Prop where
  i : IsiC K C
  n : PySem.W.subIn K (.ref C) (.type "int") = some false
def gIsiI (rel : Rel) (cs : List Addr) : DV → DV → (DV → Prop) → Prop := fun x y Q => match x with
  | .ins C _ => (C ∈ cs ∧ y = .ty "int") ∧ Q (.bl false)
  | _ => gIsi rel x y Q
theorem op2IsiI {K : PySem.W.Frag} {rel : Rel} {cs : List Addr} (hr : RelOk K rel) (hc : ∀ C ∈ cs, IsiN K C) : Op2d K (fun v u H Q => rIsiAll K [v, u] H Q) (gIsiI rel cs) := by
  refine ⟨fun x y Q Q' q g => ?_, fun B Z F H n σ env v u x y Q S hv hu g => ?_⟩
  · cases x <;> first | exact ⟨g.1, q _ g.2⟩ | exact (op2Isi hr).1 _ _ _ _ q g
  · cases x with
    | ins C fs =>
      obtain ⟨⟨h1, rfl⟩, g⟩ := g
      have I := (hc C h1).i
      cases hu
      cases hv with
      | ins e1 _ _ =>
        refine .inl ⟨_, _, .ref C, _, false, rfl, .ty "int", .base (.ins (S.same _ _ e1) I.cls I.fi I.gt I.tk I.mr), ?_, g (.bl false) H F S (Ext.refl _) (.bl false)⟩
        unfold PySem.W.kitOne
        rw [if_neg (by intro z; cases beq_iff_eq.mp z)]
        show (if PySem.W.kitMeta "int" = true then PySem.W.subIn K (.ref C) (.type "int") else none) = some false
        rw [if_pos (by decide +kernel)]
        exact (hc C h1).n
    | _ => exact (op2Isi hr).2 B Z F H n σ env v u _ y Q S hv hu g
section
variable {X : Cx} {Z : ZX} {a b : Expr} {ca cb : Nat} {fa fb : DD} {p pos : Pos}
theorem pdIsiI {rel : Rel} {cs : List Addr} (hr : RelOk X.K rel) (hc : ∀ C ∈ cs, IsiN X.K C) (hg : Gl X "isinstance") (hm : X.mg "isinstance" = none) (ha : PEd X Z a ca fa) (hb : PEd X Z b cb fb) (hs : starEach [a, b] X.env = (false, eval a X.env) :: starEach [b] X.env := by rfl) (hs2 : starEach [b] X.env = (false, eval b X.env) :: starEach [] X.env := by rfl)
    (hpl : (backTo pos (starEach [b] X.env)).any (·.1) = false := by rfl) : PEd X Z (.Call (.Name "isinstance" p) [a, b] [] pos) (ca + cb) (dOp2d (gIsiI rel cs) fa fb) := by
  refine PEd.op2 (op2IsiI hr hc) ha hb (PE_imp (pe_callB (callR_or call_isi call_isiT) hg hm PyProof.Rows.boot_isinstance (pa_cons ha.run (pa_cons hb.run pa_nil hs2) hs) (by decide) (by decide) hs hpl) fun σ H Q h => h)
end
theorem isiN1 {K : PySem.W.Frag} {C : Addr} (i : IsiC K C) (n : NumC K C) : ∀ C' ∈ [C], IsiN K C' := fun C' h => by
  cases List.mem_singleton.mp h
  exact ⟨i, n.i2⟩
end DL
set_option maxRecDepth 100000
set_option maxHeartbeats 4000000
/-! sums of powers as data -/
namespace LTX
open PySem PySem.Spec PyProof.Rows L2 DL LamX
/-! ### comprehensions -/
theorem back_set (env : List Cell) : ∀ (vs : List Nat) (e : List Cell) (v : Nat) (u c : Cell), (backD env (e.set v u) vs).set v c = (backD env e vs).set v c
  | [], e, v, u, c => by
    unfold backD
    rw [List.set_set]
  | w :: vs, e, v, u, c => by
    unfold backD
    by_cases h : w = v
    · subst h
      rw [List.set_set, List.set_set]
      exact back_set env vs e w u c
    · rw [List.set_comm _ _ h, back_set env vs e v u c, List.set_comm _ _ (Ne.symm h)]
theorem back_wipe (env : List Cell) : ∀ (vs : List Nat) (e : List Cell), backD env (wipeD e vs) vs = backD env e vs
  | [], e => rfl
  | v :: vs, e => by
    unfold wipeD
    show (backD env ((wipeD e vs).set v .un) vs).set v _ = (backD env e vs).set v _
    rw [back_set, back_wipe env vs e]
theorem lc_map {α : Type} {vs : List Nat} {g : DG} {f : DD} {Q : List DV → List Cell → Prop} {e : α → DV} (F : α → DV) {E0 : List Cell} : ∀ (xs : List α) (acc : List DV) (env : List Cell), wipeD env vs = E0 →
    (∀ x ∈ xs, ∀ Q' : DV → List Cell → Prop, (∀ env', wipeD env' vs = E0 → Q' (F x) env') → g (e x) E0 fun e2 => f e2 Q') →
    (∀ env', wipeD env' vs = E0 → Q (acc ++ xs.map F) env') → goLc vs g dYes f Q (xs.map e) acc env
  | [], acc, env, h0, _, fin => by
    have h := fin env h0
    rw [List.map_nil, List.append_nil] at h
    exact h
  | x :: xs, acc, env, h0, stp, fin => by
    show g (e x) (wipeD env vs) fun e2 => f e2 fun y e4 => goLc vs g dYes f Q (xs.map e) (acc ++ [y]) e4
    rw [h0]
    refine stp x (List.mem_cons_self ..) _ fun env' h' => lc_map F xs _ env' h' (fun y hy => stp y (List.mem_cons_of_mem _ hy)) fun e2 h2 => ?_
    have h := fin e2 h2
    rw [List.map_cons, List.append_cons] at h
    exact h
theorem lc_filter {α : Type} {vs : List Nat} {g : DG} {t : DT} {f : DD} {Q : List DV → List Cell → Prop} {e : α → DV} (keep : α → Bool) (F : α → DV) {E0 : List Cell} : ∀ (xs : List α) (acc : List DV) (env : List Cell), wipeD env vs = E0 →
    (∀ x ∈ xs, ∀ (Q' : DV → List Cell → Prop) (Q2 : List Cell → Prop), (keep x = true → ∀ env', wipeD env' vs = E0 → Q' (F x) env') → (keep x = false → ∀ env', wipeD env' vs = E0 → Q2 env') → g (e x) E0 fun e2 => t e2 fun k e3 => if k = true then f e3 Q' else Q2 e3) →
    (∀ env', wipeD env' vs = E0 → Q (acc ++ (xs.filter keep).map F) env') → goLc vs g t f Q (xs.map e) acc env
  | [], acc, env, h0, _, fin => by
    have h := fin env h0
    rw [List.filter_nil, List.map_nil, List.append_nil] at h
    exact h
  | x :: xs, acc, env, h0, stp, fin => by
    show g (e x) (wipeD env vs) fun e2 => t e2 fun k e3 => if k = true then f e3 (fun y e4 => goLc vs g t f Q (xs.map e) (acc ++ [y]) e4) else goLc vs g t f Q (xs.map e) acc e3
    rw [h0]
    refine stp x (List.mem_cons_self ..) _ _ (fun hk env' h' => lc_filter keep F xs _ env' h' (fun y hy => stp y (List.mem_cons_of_mem _ hy)) fun e2 h2 => ?_) (fun hk env' h' => lc_filter keep F xs _ env' h' (fun y hy => stp y (List.mem_cons_of_mem _ hy)) fun e2 h2 => ?_)
    · have h := fin e2 h2
      rw [List.filter_cons_of_pos hk, List.map_cons, List.append_cons] at h
      exact h
    · have h := fin e2 h2
      rw [List.filter_cons_of_neg (by rw [hk]; intro z; cases z)] at h
      exact h
theorem lc_rel {α : Type} {vs : List Nat} {g : DG} {f : DD} {Q : List DV → List Cell → Prop} {e : α → DV} (T : DV → Prop) {E0 : List Cell} : ∀ (xs : List α) (acc : List DV) (env : List Cell), wipeD env vs = E0 →
    (∀ x ∈ xs, ∀ Q' : DV → List Cell → Prop, (∀ y env', T y → wipeD env' vs = E0 → Q' y env') → g (e x) E0 fun e2 => f e2 Q') →
    (∀ ys env', ys.length = xs.length → (∀ y ∈ ys, T y) → wipeD env' vs = E0 → Q (acc ++ ys) env') → goLc vs g dYes f Q (xs.map e) acc env
  | [], acc, env, h0, _, fin => by
    have h := fin [] env rfl (fun y hy => by cases hy) h0
    rw [List.append_nil] at h
    exact h
  | x :: xs, acc, env, h0, stp, fin => by
    show g (e x) (wipeD env vs) fun e2 => f e2 fun y e4 => goLc vs g dYes f Q (xs.map e) (acc ++ [y]) e4
    rw [h0]
    refine stp x (List.mem_cons_self ..) _ fun y env' ty h' => lc_rel T xs _ env' h' (fun y hy => stp y (List.mem_cons_of_mem _ hy)) fun ys e2 hl ht h2 => ?_
    have h := fin (y :: ys) e2 (by rw [List.length_cons, List.length_cons, hl]) (fun z hz => by
      rcases List.mem_cons.mp hz with rfl | hz
      · exact ty
      · exact ht z hz) h2
    rw [List.append_cons] at h
    exact h
theorem lc_filterI {vs : List Nat} {g : DG} {t : DT} {f : DD} {Q : List DV → List Cell → Prop} (keep : DV → Bool) (F : DV → DV) {E0 : List Cell} (xs : List DV) (env : List Cell) (h0 : wipeD env vs = E0)
    (stp : ∀ x ∈ xs, ∀ (Q' : DV → List Cell → Prop) (Q2 : List Cell → Prop), (keep x = true → ∀ env', wipeD env' vs = E0 → Q' (F x) env') → (keep x = false → ∀ env', wipeD env' vs = E0 → Q2 env') → g x E0 fun e2 => t e2 fun k e3 => if k = true then f e3 Q' else Q2 e3)
    (fin : ∀ env', wipeD env' vs = E0 → Q ((xs.filter keep).map F) env') : goLc vs g t f Q xs [] env := by
  have := lc_filter (e := id) (Q := Q) keep F xs [] env h0 stp (fun e h => by rw [List.nil_append]; exact fin e h)
  rw [List.map_id] at this
  exact this
theorem lc_mapI {vs : List Nat} {g : DG} {f : DD} {Q : List DV → List Cell → Prop} (F : DV → DV) {E0 : List Cell} (xs : List DV) (env : List Cell) (h0 : wipeD env vs = E0)
    (stp : ∀ x ∈ xs, ∀ Q' : DV → List Cell → Prop, (∀ env', wipeD env' vs = E0 → Q' (F x) env') → g x E0 fun e2 => f e2 Q')
    (fin : ∀ env', wipeD env' vs = E0 → Q (xs.map F) env') : goLc vs g dYes f Q xs [] env := by
  have := lc_map (e := id) (Q := Q) F xs [] env h0 stp (fun e h => by rw [List.nil_append]; exact fin e h)
  rw [List.map_id] at this
  exact this
theorem lc_relI {vs : List Nat} {g : DG} {f : DD} {Q : List DV → List Cell → Prop} (T : DV → Prop) {E0 : List Cell} (xs : List DV) (env : List Cell) (h0 : wipeD env vs = E0)
    (stp : ∀ x ∈ xs, ∀ Q' : DV → List Cell → Prop, (∀ y env', T y → wipeD env' vs = E0 → Q' y env') → g x E0 fun e2 => f e2 Q')
    (fin : ∀ ys env', ys.length = xs.length → (∀ y ∈ ys, T y) → wipeD env' vs = E0 → Q ys env') : goLc vs g dYes f Q xs [] env := by
  have := lc_rel (e := id) (Q := Q) T xs [] env h0 stp (fun ys e h1 h2 h3 => by rw [List.nil_append]; exact fin ys e h1 h2 h3)
  rw [List.map_id] at this
  exact this
theorem lcB_filter {α : Type} {vs : List Nat} {g : DG} {t : DT} {f : DD} {Q : List DV → List Cell → Prop} {e : α → DV} (keep : α → Bool) (F : α → DV) {E0 : List Cell} : ∀ (xs : List α) (acc : List DV) (env : List Cell), acc.length + xs.length ≤ LINE → wipeD env vs = E0 →
    (∀ x ∈ xs, ∀ (Q' : DV → List Cell → Prop) (Q2 : List Cell → Prop), (keep x = true → ∀ env', wipeD env' vs = E0 → Q' (F x) env') → (keep x = false → ∀ env', wipeD env' vs = E0 → Q2 env') → g (e x) E0 fun e2 => t e2 fun k e3 => if k = true then f e3 Q' else Q2 e3) →
    (∀ env', wipeD env' vs = E0 → Q (acc ++ (xs.filter keep).map F) env') → goLcB vs g t f Q (xs.map e) acc env
  | [], acc, env, _, h0, _, fin => by
    have h := fin env h0
    rw [List.filter_nil, List.map_nil, List.append_nil] at h
    exact h
  | x :: xs, acc, env, hl, h0, stp, fin => by
    rw [List.length_cons] at hl
    show g (e x) (wipeD env vs) fun e2 => t e2 fun k e3 => if k = true then f e3 (fun y e4 => acc.length < LINE ∧ goLcB vs g t f Q (xs.map e) (acc ++ [y]) e4) else goLcB vs g t f Q (xs.map e) acc e3
    rw [h0]
    refine stp x (List.mem_cons_self ..) _ _ (fun hk env' h' => ⟨by omega, lcB_filter keep F xs _ env' (by rw [List.length_append, List.length_singleton]; omega) h' (fun y hy => stp y (List.mem_cons_of_mem _ hy)) fun e2 h2 => ?_⟩) (fun hk env' h' => lcB_filter keep F xs _ env' (by omega) h' (fun y hy => stp y (List.mem_cons_of_mem _ hy)) fun e2 h2 => ?_)
    · have h := fin e2 h2
      rw [List.filter_cons_of_pos hk, List.map_cons, List.append_cons] at h
      exact h
    · have h := fin e2 h2
      rw [List.filter_cons_of_neg (by rw [hk]; intro z; cases z)] at h
      exact h
theorem lcB_map {α : Type} {vs : List Nat} {g : DG} {f : DD} {Q : List DV → List Cell → Prop} {e : α → DV} (F : α → DV) {E0 : List Cell} : ∀ (xs : List α) (acc : List DV) (env : List Cell), acc.length + xs.length ≤ LINE → wipeD env vs = E0 →
    (∀ x ∈ xs, ∀ Q' : DV → List Cell → Prop, (∀ env', wipeD env' vs = E0 → Q' (F x) env') → g (e x) E0 fun e2 => f e2 Q') →
    (∀ env', wipeD env' vs = E0 → Q (acc ++ xs.map F) env') → goLcB vs g dYes f Q (xs.map e) acc env
  | [], acc, env, _, h0, _, fin => by
    have h := fin env h0
    rw [List.map_nil, List.append_nil] at h
    exact h
  | x :: xs, acc, env, hl, h0, stp, fin => by
    rw [List.length_cons] at hl
    show g (e x) (wipeD env vs) fun e2 => f e2 fun y e4 => acc.length < LINE ∧ goLcB vs g dYes f Q (xs.map e) (acc ++ [y]) e4
    rw [h0]
    refine stp x (List.mem_cons_self ..) _ fun env' h' => ⟨by omega, lcB_map F xs _ env' (by rw [List.length_append, List.length_singleton]; omega) h' (fun y hy => stp y (List.mem_cons_of_mem _ hy)) fun e2 h2 => ?_⟩
    have h := fin e2 h2
    rw [List.map_cons, List.append_cons] at h
    exact h
theorem lc2_map {α β : Type} {vs vs1 : List Nat} {g g1 : DG} {i1 : DI} {f : DD} {Q : List DV → List Cell → Prop} {e : α → DV} {e1 : β → DV} (F : α → β → DV) {E0 : List Cell} {E1 : α → List Cell} {us : List β} (hv : ∀ j ∈ vs1, j ∈ vs) (hE : ∀ x, wipeD (E1 x) vs = E0) :
    ∀ (xs : List α) (acc : List DV) (env : List Cell), acc.length + xs.length * us.length ≤ LINE → wipeD env vs = E0 →
    (∀ x ∈ xs, ∀ R : List DV → List Cell → Prop, (∀ e4, wipeD e4 vs1 = E1 x → R (us.map e1) e4) → g (e x) E0 fun e2 => i1 e2 R) →
    (∀ x ∈ xs, ∀ u ∈ us, ∀ Q' : DV → List Cell → Prop, (∀ env', wipeD env' vs1 = E1 x → Q' (F x u) env') → g1 (e1 u) (E1 x) fun e2 => f e2 Q') →
    (∀ env', wipeD env' vs = E0 → Q (acc ++ (xs.map fun x => us.map (F x)).flatten) env') → goLc2 vs vs1 g dYes i1 g1 dYes f Q (xs.map e) acc env
  | [], acc, env, _, h0, _, _, fin => by
    have h := fin env h0
    rw [List.map_nil, List.flatten_nil, List.append_nil] at h
    exact h
  | x :: xs, acc, env, hl, h0, s1, s2, fin => by
    rw [List.length_cons, Nat.succ_mul] at hl
    show g (e x) (wipeD env vs) fun e2 => i1 e2 fun ds1 e4 => goLcB vs1 g1 dYes f (fun acc' e5 => goLc2 vs vs1 g dYes i1 g1 dYes f Q (xs.map e) acc' e5) ds1 acc e4
    rw [h0]
    refine s1 x (List.mem_cons_self ..) _ fun e4 h4 => ?_
    refine lcB_map (F x) us acc e4 (by omega) h4 (fun u hu Q' hq => s2 x (List.mem_cons_self ..) u hu Q' hq) fun e5 h5 => ?_
    refine lc2_map F hv hE xs _ e5 (by rw [List.length_append, List.length_map]; omega) ?_ (fun y hy => s1 y (List.mem_cons_of_mem _ hy)) (fun y hy => s2 y (List.mem_cons_of_mem _ hy)) fun e6 h6 => ?_
    · rw [← wipeD_sub hv, h5]
      exact hE x
    · have h := fin e6 h6
      rw [List.map_cons, List.flatten_cons, ← List.append_assoc] at h
      exact h
/-! ### keys and terms as data -/
def k3v (k : K3) : List DV := [.int k.1, .int k.2.1, .int k.2.2]
def k3i (k : K3) : List Int := [k.1, k.2.1, k.2.2]
def k3k (k : K3) : List Key := [.inl k.1, .inl k.2.1, .inl k.2.2]
def KeyD (d : DV) (k : K3) : Prop := d = .tup (k3v k) ∨ d = .ktup (k3v k)
def ExpD (d : DV) (k : K3) : Prop := KeyD d k ∨ d = .lst (k3v k)
def TermD (d : DV) (p : K3 × Int) : Prop := ∃ x, KeyD x p.1 ∧ d = .tup [x, .int p.2]
def ItemD (d : DV) (p : K3 × Int) : Prop := ∃ x, ExpD x p.1 ∧ (d = .tup [x, .int p.2] ∨ d = .lst [x, .int p.2])
def TmD (ds : List DV) (t : Tms) : Prop := Paired TermD ds t
def ItmD (ds : List DV) (t : Tms) : Prop := Paired ItemD ds t
def PwF (fs : List (Str × DV)) (t : Tms) : Prop := Can t ∧ ∃ ts rs, fs = ([("terms", .tup ts), ("reach", rs)] : List (Str × DV)) ∧ TmD ts t
def PwD (C : Addr) (v : DV) (t : Tms) : Prop := ∃ fs, v = .ins C fs ∧ PwF fs t
def kdD (t : Tms) : List (List Key × DV) := t.map fun p => (k3k p.1, .int p.2)
theorem k3k_inj {a b : K3} (h : k3k a = k3k b) : a = b := by
  unfold k3k at h
  simp only [List.cons.injEq, Sum.inl.injEq] at h
  exact k3_ext h.1 h.2.1 h.2.2.1
theorem k3i_inj {a b : K3} (h : k3i a = k3i b) : a = b := by
  unfold k3i at h
  simp only [List.cons.injEq] at h
  exact k3_ext h.1 h.2.1 h.2.2.1
theorem key_tkey (k : K3) : (DV.tup (k3v k)).tkey = some (k3k k) := rfl
theorem KeyD.ik {d : DV} {k : K3} (h : KeyD d k) : ikey d = some (k3i k) := by rcases h with rfl | rfl <;> rfl
theorem valD_kd (t : Tms) (k : K3) : valD (kdD t) (k3k k) = (getT t k).map DV.int := by
  unfold valD getT kdD
  induction t with
  | nil => rfl
  | cons p t ih =>
    rw [List.map_cons]
    by_cases h : p.1 = k
    · rw [List.find?_cons_of_pos (by simp [h]), List.find?_cons_of_pos (by simp [h])]; rfl
    · rw [List.find?_cons_of_neg (by simp; exact fun z => h (k3k_inj z)), List.find?_cons_of_neg (by simp [h])]
      exact ih
theorem putD_kd (t : Tms) (k : K3) (v : Int) : putD (kdD t) (k3k k) (.int v) = kdD (putT t k v) := by
  have e : ((kdD t).any fun kv => decide (kv.1 = k3k k)) = (getT t k).isSome := by
    unfold kdD getT
    induction t with
    | nil => rfl
    | cons p t ih =>
      rw [List.map_cons, List.any_cons]
      by_cases h : p.1 = k
      · rw [List.find?_cons_of_pos (by simp [h])]; simp [h]
      · rw [List.find?_cons_of_neg (by simp [h]), ih]
        have : decide (k3k p.1 = k3k k) = false := decide_eq_false fun z => h (k3k_inj z)
        rw [this]; rfl
  unfold putD putT
  rw [e]
  split
  · unfold kdD
    rw [List.map_map, List.map_map]
    refine List.map_congr_left fun p _ => ?_
    show (if k3k p.1 = k3k k then (k3k p.1, DV.int v) else (k3k p.1, .int p.2)) = (k3k (if p.1 = k then (k, v) else p).1, .int (if p.1 = k then (k, v) else p).2)
    by_cases h : p.1 = k
    · rw [if_pos (by rw [h]), if_pos h, h]
    · rw [if_neg (fun z => h (k3k_inj z)), if_neg h]
  · unfold kdD
    rw [List.map_append]
    rfl
theorem kd_len (t : Tms) : (kdD t).length = t.length := List.length_map ..
theorem kd_nodup {t : Tms} (h : (t.map (·.1)).Nodup) : ((kdD t).map (·.1)).Nodup := by
  unfold kdD
  rw [List.map_map]
  have e : t.map ((fun p => p.1) ∘ fun p : K3 × Int => (k3k p.1, DV.int p.2)) = (t.map (·.1)).map k3k := by rw [List.map_map]; rfl
  rw [e]
  exact List.pairwise_map.mpr (h.imp fun {a b} hn z => hn (k3k_inj z))
/-! ### the dict of a sum that is made -/
def U (kvs : List (DV × Int)) (t : Tms) : Prop := Paired (fun p q => KeyD p.1 q.1 ∧ p.2 = q.2) kvs t
theorem U.len {kvs : List (DV × Int)} {t : Tms} (h : U kvs t) : kvs.length = t.length := Paired.length h
theorem U.val {kvs : List (DV × Int)} {t : Tms} (h : U kvs t) (k : K3) : uval kvs (k3i k) = getT t k := by
  unfold uval getT
  induction h with
  | nil => rfl
  | @cons p q ps qs h r ih =>
    by_cases e : q.1 = k
    · rw [List.find?_cons_of_pos (by simp [h.1.ik, e]), List.find?_cons_of_pos (by simp [e])]
      exact congrArg some h.2
    · rw [List.find?_cons_of_neg (by simp [h.1.ik]; exact fun z => e (k3i_inj z)), List.find?_cons_of_neg (by simp [e])]
      exact ih
theorem U.put {kvs : List (DV × Int)} {t : Tms} (h : U kvs t) {x : DV} {k : K3} (hx : KeyD x k) (n : Int) : U (uput kvs x (k3i k) n) (putT t k n) := by
  unfold uput putT
  rw [h.val]
  split
  · induction h with
    | nil => exact .nil
    | @cons p q ps qs h r ih =>
      rename_i g
      rw [List.map_cons, List.map_cons]
      have tail : U (ps.map fun p => if ikey p.1 = some (k3i k) then (p.1, n) else p) (qs.map fun p => if p.1 = k then (k, n) else p) := by
        clear ih g
        induction r with
        | nil => exact .nil
        | @cons p q ps qs h r ih =>
          rw [List.map_cons, List.map_cons]
          refine .cons ?_ ih
          by_cases e : q.1 = k
          · rw [if_pos (by rw [h.1.ik, e]), if_pos e]; exact ⟨e ▸ h.1, rfl⟩
          · rw [if_neg (by rw [h.1.ik]; exact fun z => e (k3i_inj (Option.some.inj z))), if_neg e]; exact h
      refine .cons ?_ tail
      by_cases e : q.1 = k
      · rw [if_pos (by rw [h.1.ik, e]), if_pos e]; exact ⟨e ▸ h.1, rfl⟩
      · rw [if_neg (by rw [h.1.ik]; exact fun z => e (k3i_inj (Option.some.inj z))), if_neg e]; exact h
  · exact Paired.snoc h ⟨hx, rfl⟩
/-! ### the terms, sorted -/
def kyOf (d : DV) : K3 := match ikey d with
  | some [a, b, c] => (a, b, c)
  | _ => (0, 0, 0)
theorem KeyD.ky {d : DV} {k : K3} (h : KeyD d k) : kyOf d = k := by unfold kyOf; rw [h.ik]; rfl
theorem ilt_k3 (a b : K3) : ilt (k3i a) (k3i b) = true ↔ lt3 a b := by
  unfold k3i lt3
  simp [ilt]
  omega
def termOf (t : Tms) (x : DV) : DV := .tup [x, .int (cf t (kyOf x))]
theorem sorted_terms {t : Tms} {xs ys : List DV} (hn : (t.map (·.1)).Nodup) (hk : ∀ x ∈ xs, KeyD x (kyOf x)) (e : xs.map kyOf = t.map (·.1)) (hp : ys.Perm xs) (hs : ys.Pairwise (fun x y => ilt (ikL y) (ikL x) = false)) :
    ∃ u, TmD ((ys.filter fun x => decide (cf t (kyOf x) ≠ 0)).map (termOf t)) u ∧ Can u ∧ Eqv u t := by
  have hky : ∀ y ∈ ys, KeyD y (kyOf y) := fun y hy => hk y (hp.mem_iff.mp hy)
  have hnd : (ys.map kyOf).Nodup := by
    rw [← e] at hn
    exact (hp.map kyOf).nodup_iff.mpr hn
  have hs2 : ys.Pairwise (fun x y => lt3 (kyOf x) (kyOf y)) := by
    have := (List.pairwise_map.mp hnd).and hs
    refine this.imp_of_mem fun {x y} mx my ⟨h1, h2⟩ => ?_
    have ix : ikL x = k3i (kyOf x) := by unfold ikL; rw [(hky x mx).ik]; rfl
    have iy : ikL y = k3i (kyOf y) := by unfold ikL; rw [(hky y my).ik]; rfl
    rw [ix, iy] at h2
    rcases lt3_tri (kyOf x) (kyOf y) with h | h | h
    · exact h
    · exact absurd h h1
    · rw [(ilt_k3 _ _).mpr h] at h2
      cases h2
  generalize hz : ys.filter (fun x => decide (cf t (kyOf x) ≠ 0)) = zs
  have zsub : zs.Sublist ys := hz ▸ List.filter_sublist
  have zk : ∀ x ∈ zs, KeyD x (kyOf x) := fun x hx => hky x (zsub.subset hx)
  have c : Can (zs.map fun x => (kyOf x, cf t (kyOf x))) := ⟨List.pairwise_map.mpr (hs2.sublist zsub), fun p hp => by
    obtain ⟨x, hx, rfl⟩ := List.mem_map.mp hp
    rw [← hz] at hx
    exact of_decide_eq_true (List.mem_filter.mp hx).2⟩
  refine ⟨zs.map fun x => (kyOf x, cf t (kyOf x)), ?_, c, fun k => ?_⟩
  · clear hz zsub c
    induction zs with
    | nil => exact .nil
    | cons x zs ih => exact .cons ⟨x, zk x List.mem_cons_self, rfl⟩ (ih fun y hy => zk y (List.mem_cons_of_mem _ hy))
  · by_cases h : cf t k = 0
    · rw [h]
      refine cf_none fun p hp e2 => ?_
      obtain ⟨x, hx, rfl⟩ := List.mem_map.mp hp
      rw [← hz] at hx
      have := of_decide_eq_true (List.mem_filter.mp hx).2
      rw [show kyOf x = k from e2] at this
      exact this h
    · obtain ⟨p, hq, rfl⟩ := cf_key h
      have m : p.1 ∈ xs.map kyOf := by rw [e]; exact List.mem_map_of_mem hq
      obtain ⟨x, hx, ex⟩ := List.mem_map.mp m
      have mz : x ∈ zs := by
        rw [← hz]
        exact List.mem_filter.mpr ⟨hp.mem_iff.mpr hx, decide_eq_true (by rw [ex]; exact h)⟩
      have := cf_mem (can_nodup c) (List.mem_map_of_mem (f := fun x => (kyOf x, cf t (kyOf x))) mz)
      rw [show (kyOf x, cf t (kyOf x)).1 = p.1 from ex] at this
      rw [this]
      show cf t (kyOf x) = _
      rw [ex]
theorem TmD.app {ds es : List DV} {t u : Tms} (h : TmD ds t) (g : TmD es u) : TmD (ds ++ es) (t ++ u) := by
  induction h with
  | nil => exact g
  | cons h r ih => exact .cons h ih
abbrev Tri := DV × K3 × Int
def triV (x : Tri) : DV := .tup [x.1, .int x.2.2]
theorem TmD.un {ds : List DV} {t : Tms} (h : TmD ds t) : ∃ xs : List Tri, xs.map triV = ds ∧ xs.map (·.2) = t ∧ ∀ x ∈ xs, KeyD x.1 x.2.1 := by
  induction h with
  | nil => exact ⟨[], rfl, rfl, fun _ h => nomatch h⟩
  | @cons d p ds t h r ih =>
    obtain ⟨x, hx, rfl⟩ := h
    obtain ⟨xs, h1, h2, h3⟩ := ih
    exact ⟨(x, p) :: xs, by rw [List.map_cons, h1]; rfl, by rw [List.map_cons, h2], fun y hy => by
      rcases List.mem_cons.mp hy with rfl | hy
      · exact hx
      · exact h3 y hy⟩
theorem prods_flat (s t : Tms) : prods s t = (s.map fun p => scal p t).flatten := by
  induction s with
  | nil => rfl
  | cons p s ih => rw [prods_cons, ih, List.map_cons, List.flatten_cons]
def prodV (p q : K3 × Int) : DV := .tup [.tup (k3v (ad p.1 q.1)), .int (p.2 * q.2)]
theorem prodsD (s t : Tms) : TmD ((s.map fun p => t.map (prodV p)).flatten) (prods s t) := by
  rw [prods_flat]
  induction s with
  | nil => exact .nil
  | cons p s ih =>
    rw [List.map_cons, List.map_cons, List.flatten_cons, List.flatten_cons]
    have one : TmD (t.map (prodV p)) (scal p t) := by
      clear ih
      induction t with
      | nil => exact .nil
      | cons q t ih => exact .cons ⟨_, .inl rfl, rfl⟩ ih
    exact TmD.app one ih
/-! ### two sums compared -/
theorem TmD.py {ds : List DV} {t : Tms} (h : TmD ds t) : (DV.tup ds).py = .tuple (t.map fun p => .tuple [.tuple [.int p.1.1, .int p.1.2.1, .int p.1.2.2], .int p.2]) ∧ (DV.tup ds).ok 60 = true := by
  rw [DV.py, DV.ok]
  have : pyAll ds = (t.map fun p => .tuple [.tuple [.int p.1.1, .int p.1.2.1, .int p.1.2.2], .int p.2]) ∧ ds.all (DV.ok 59) = true := by
    induction h with
    | nil => exact ⟨rfl, rfl⟩
    | @cons d p ds t h r ih =>
      obtain ⟨x, hx, rfl⟩ := h
      rw [pyAll, List.map_cons, ih.1, List.all_cons, ih.2, Bool.and_true]
      rcases hx with rfl | rfl
      · exact ⟨rfl, rfl⟩
      · exact ⟨rfl, rfl⟩
  exact ⟨by rw [this.1], this.2⟩
theorem eqv_self (t : Tms) : PyData.eqv (.tuple (t.map fun p => .tuple [.tuple [.int p.1.1, .int p.1.2.1, .int p.1.2.2], .int p.2])) (.tuple (t.map fun p => .tuple [.tuple [.int p.1.1, .int p.1.2.1, .int p.1.2.2], .int p.2])) = true := by
  rw [PyData.eqv]
  induction t with
  | nil => rw [List.map_nil, PyData.eqvAll]
  | cons p t ih =>
    rw [List.map_cons, PyData.eqvAll, ih, Bool.and_true]
    simp [PyData.eqv, PyData.eqvAll]
theorem tm_eq {ds es : List DV} {t : Tms} (h : TmD ds t) (g : TmD es t) : eqD (.tup ds) (.tup es) = true := by
  unfold eqD
  rw [h.py.1, g.py.1]
  exact eqv_self t
theorem TmD.items {ds : List DV} {t : Tms} (h : TmD ds t) : ItmD ds t := L2.Paired.mapP h fun _ _ ⟨x, hx, e⟩ => ⟨x, .inl hx, .inl e⟩
end LTX
set_option maxRecDepth 100000
set_option maxHeartbeats 4000000
/-! the second half of a sum's __init__ -/
namespace LTX
open PySem PySem.Spec PyProof.Rows L2 DL LamX
theorem pf1 {a : DV} : putFD ("terms" : Str) a [] = ([("terms", a)] : List (Str × DV)) := rfl
theorem pf2 {a b : DV} : putFD ("reach" : Str) b ([("terms", a)] : List (Str × DV)) = ([("terms", a), ("reach", b)] : List (Str × DV)) := rfl
theorem fl1 {a : DV} : ([("terms", a)] : List (Str × DV)).lookup ("terms" : Str) = some a := rfl
theorem fl_terms {a b : DV} : ([("terms", a), ("reach", b)] : List (Str × DV)).lookup ("terms" : Str) = some a := rfl
theorem at30 {a b c : DV} : atI [a, b, c] 0 = some a := rfl
theorem at31 {a b c : DV} : atI [a, b, c] 1 = some b := rfl
theorem at32 {a b c : DV} : atI [a, b, c] 2 = some c := rfl
theorem ints_ex : ∀ {ys : List DV}, (∀ y ∈ ys, ∃ n : Int, y = .int n) → ∃ ns : List Int, ys = ns.map DV.int
  | [], _ => ⟨[], rfl⟩
  | y :: ys, h => by
    obtain ⟨n, rfl⟩ := h y List.mem_cons_self
    obtain ⟨ns, e⟩ := ints_ex fun z hz => h z (List.mem_cons_of_mem _ hz)
    exact ⟨n :: ns, by rw [List.map_cons, ← e]⟩
theorem ints_of : ∀ ns : List Int, intsOf (ns.map DV.int) = some ns
  | [] => rfl
  | n :: ns => by rw [List.map_cons, intsOf, ints_of ns]; rfl
def Bits (b : Nat) (t : Tms) : Prop := 0 < b ∧ ∀ p ∈ t, p.2.natAbs < 2 ^ b
theorem can_len {s : Tms} {n a : Nat} {r : Tms} {M : Nat → Nat} (hM : ∀ a, a ≤ n → ∀ ks : List K3, ks.Nodup → (∀ k ∈ ks, k ∈ (npow s a).map (·.1)) → ks.length ≤ M a) (ha : a ≤ n) (c : Can r) (e : Eqv r (npow s a)) : r.length ≤ M a := by
  have := hM a ha (r.map (·.1)) (can_nodup c) (can_keys c e)
  rw [List.length_map] at this
  exact this
theorem can_bits {s : Tms} {B a : Nat} {r : Tms} (hB : nrm s < 2 ^ B) (c : Can r) (e : Eqv r (npow s a)) : Bits (B * a + 1) r := by
  refine ⟨Nat.succ_pos _, fun p hp => ?_⟩
  have h1 := cf_mem (can_nodup c) hp
  rw [← h1, e]
  have h2 := cf_le (npow s a) p.1
  rw [nrm_npow] at h2
  have h3 : nrm s ^ a ≤ 2 ^ (B * a) := by
    rw [Nat.pow_mul]
    exact Nat.pow_le_pow_left (Nat.le_of_lt hB) a
  have h4 : 2 ^ (B * a) < 2 ^ (B * a + 1) := Nat.pow_lt_pow_right (by omega) (by omega)
  omega
theorem pow_mul_ok {s : Tms} {n B a e : Nat} {r q : Tms} (G : Grw s n) (hB : nrm s < 2 ^ B) (hn : B * n ≤ 400000) (cr : Can r) (er : Eqv r (npow s a)) (cq : Can q) (eq : Eqv q (npow s e)) (h : a + e ≤ n) :
    (r.length * q.length < LINE ∧ r.length ≤ LINE ∧ q.length ≤ LINE) ∧ (Bits (B * a + 1) r ∧ Bits (B * e + 1) q ∧ (B * a + 1) + (B * e + 1) ≤ 1000000) := by
  obtain ⟨M, hM, hM2⟩ := G
  have l1 := can_len hM (by omega : a ≤ n) cr er
  have l2 := can_len hM (by omega : e ≤ n) cq eq
  have l0 : 1 ≤ M 0 := hM 0 (by omega) [(0, 0, 0)] (by simp) (fun k hk => by
    rw [List.mem_singleton] at hk
    subst hk
    exact List.mem_cons_self)
  have b1 := hM2 a e h
  have b2 := hM2 a 0 (by omega)
  have b3 := hM2 e 0 (by omega)
  have c1 : r.length * q.length ≤ M a * M e := Nat.mul_le_mul l1 l2
  have c2 : M a * 1 ≤ M a * M 0 := Nat.mul_le_mul_left _ l0
  have c3 : M e * 1 ≤ M e * M 0 := Nat.mul_le_mul_left _ l0
  have k1 : B * a + B * e ≤ B * n := by rw [← Nat.mul_add]; exact Nat.mul_le_mul_left _ h
  refine ⟨⟨?_, ?_, ?_⟩, can_bits hB cr er, can_bits hB cq eq, by omega⟩
  · show _ < 16777216
    omega
  · show _ ≤ 16777216
    omega
  · show _ ≤ 16777216
    omega
def PwS (C : Addr) (X : Cell) (t : Tms) : Prop := ∃ fs, PwF fs t ∧ (X = .o false (.ins C fs) ∨ X = .d (.ins C fs))
def restI (C : Addr) : WS := (wSeq (wSet 5 (dLc [4] (iData (dDat (dOp1 gSortT (dVw (dListU 2))))) (gN 4) (tNe (dIxU 2 (dVar 4)) (dC (.int 0))) (dVar 4))) (wSeq (wFld 0 C "terms" (dDat (dOp1 gTuple (dVw (dLc [4] (iData (dVar 5)) (gN 4) dYes (dTup (aCons (dVar 4) (aCons (dIxU 2 (dVar 4)) aNil)))))))) (wSeq (wSet 6 (dLc [7] (iR1 (dC (.int 3))) (gN 7) dYes (dDat (dLc [4, 8] (iData (dFld C "terms" (dPeek 0))) (gT 2 (gsCons (gN 4) (gsCons (gN 8) gsNil))) dYes (dDat (dOp1 gAbs (dIxN 4 (dVar 7)))))))) (wSeq (wFld 0 C "reach" (dDat (dOp1 gTuple (dVw (dLc [9] (iData (dVar 6)) (gN 9) dYes (dDat (dOp1 (gMaxD 0) (dPeek 9)))))))) wNil))))
theorem U.keys {kvs : List (DV × Int)} {t : Tms} (h : U kvs t) : (∀ x ∈ kvs.map (·.1), KeyD x (kyOf x)) ∧ (kvs.map (·.1)).map kyOf = t.map (·.1) := by
  induction h with
  | nil => exact ⟨(fun _ h => nomatch h), rfl⟩
  | cons h r ih =>
    refine ⟨fun x hx => ?_, ?_⟩
    · rw [List.map_cons] at hx
      rcases List.mem_cons.mp hx with rfl | hx
      · rw [h.1.ky]; exact h.1
      · exact ih.1 x hx
    · rw [List.map_cons, List.map_cons, List.map_cons, ih.2, h.1.ky]
theorem init_rest {C : Addr} {b : Bool} {c1 x y : Cell} {kvs : List (DV × Int)} {t : Tms} {D : EndsD} (hn : (t.map (·.1)).Nodup) (hu : U kvs t) (hy : y.own = false) (hl : t.length ≤ LINE)
    (fin : ∀ fs u e, PwF fs u → Eqv u t → e[0]? = some (.o b (.ins C fs)) → D.nx e) : restI C D [.o b (.ins C []), c1, .o false (.u kvs), x, y, .un, .un, .un, .un, .un] := by
  obtain ⟨hk, hke⟩ := hu.keys
  unfold restI
  refine seq_gen fun k1 hk1 => ?_
  simp (config := { decide := false, maxSteps := 1000000 }) only [runD, wNil, wBreak, wCont, wSet, wDrop, wRet, wRetN, wIf, wFor, gN, gsNil, gsCons, gT, wAsg, wPar, dCel, dDat, dVar, dC, dOp2, dOp2d, gI2, gI0, dCmp, dBl, dAsB, gB2, gEq, dAnd, dOr, dNot, dAndV, dOrV, dNotV, gAdd, gMul, dNeg, iData, dI_lst, dI_klst, dI_tup, dI_ktup, iD_lst, iD_klst, iD_tup, iD_ktup, ln_lst, ln_klst, ln_tup, ln_ktup, iR1, iR2, iZipD, iEnumD, dYes, dLc, dIx, dIxN, ixD, optP, dVw, dPeek, dOp1, gInts, gBls, gList, gTuple, gLen, gInt, aNil, aCons, dTup, dLst, dDk, dDt, dAppend, dPop, wPutL, wPutD, DV.key, dDisp, ppN, ppC, DL.kvsOf, dPopAt, wAugI, dIf, exists_and_left, exists_and_right, exists_eq_left, exists_eq_left', exists_eq', exists_eq, exists_const, exists_false, or_false, false_or, false_and, and_false, and_assoc, Option.some.injEq, Cell.o.injEq, Cell.d.injEq, OC.k.injEq, OC.l.injEq, OC.t.injEq, OC.ins.injEq, DV.int.injEq, DV.bl.injEq, DV.str.injEq,  oNone, oSome, dSl, dSlN, gSl, dRev, dCmpV, dBlV, gIn, dIsN, gIsB, dGetN1, dGetN2, gIsi, dFld, wFld, wRaise, dChain, dCall, bNil, bCons, bBor, DL.cellOf, DL.borIx, DL.putB, DL.allOwn, DL.sameOwn, DL.borsAt, ownIx, parC, okSet, Cell.view, Cell.frz, OC.frz, OC.flat, Cell.own, Cell.bor, List.map_cons, List.map_nil, List.cons_append, List.nil_append, List.length_cons, List.length_nil, List.replicate_succ, List.replicate_zero, List.getElem?_cons_zero, List.getElem?_cons_succ, List.set_cons_zero, List.set_cons_succ, List.getD_cons_zero, List.getD_cons_succ, Option.bind_some, List.nodup_nil, List.nodup_cons, List.not_mem_nil, not_false_eq_true, true_and, and_true, if_true, if_false, ite_true, ite_false, reduceCtorEq, Nat.reduceAdd, Nat.reduceSub, Nat.zero_add, Nat.sub_self, Bool.not_true, Bool.not_false, Bool.false_eq_true, Bool.true_eq, DL.dataOf, conF, Option.map_some, Out.to, dNotInU, dIxU, wPutU, dListU, dDu, dBinOO, dNeO, dDisp1T, dDisp2T, gDictPT, gSortT, gMaxD, dMeth, dMake, isIns, isO, OC.u.injEq]
  refine ⟨fun z hz => ?_, fun ys hp hs => ?_⟩
  · rw [(hk z hz).ik]
    exact ⟨_, _, rfl⟩
  obtain ⟨u, hT, hC, hE⟩ := sorted_terms hn hk hke hp hs
  have hky : ∀ z ∈ ys, KeyD z (kyOf z) ∧ kyOf z ∈ t.map (·.1) := fun z hz => ⟨hk z (hp.mem_iff.mp hz), by rw [← hke]; exact List.mem_map_of_mem (hp.mem_iff.mp hz)⟩
  have hval : ∀ z ∈ ys, uval kvs (k3i (kyOf z)) = some (cf t (kyOf z)) := fun z hz => by
    rw [hu.val]
    obtain ⟨v, hv⟩ := Option.isSome_iff_exists.mp (getT_some.mpr (hky z hz).2)
    have := getT_cf hn (kyOf z)
    rw [hv] at this
    rw [hv, ← this]
    rfl
  have hyl : ys.length ≤ LINE := by rw [hp.length_eq, List.length_map, hu.len]; exact hl
  have own0 : ∀ (e : List Cell) (vs : List Nat), (∀ v ∈ vs, ∀ c, e[v]? = some c → c.own = false) → noOwn e vs := fun e vs h => h
  refine ⟨fun v hv c hc => by cases List.mem_singleton.mp hv; cases hc; exact hy, ?_⟩
  refine lc_filterI (fun z => decide (cf t (kyOf z) ≠ 0)) id (E0 := [.o b (.ins C []), c1, .o false (.u kvs), x, .un, .un, .un, .un, .un, .un]) ys _ rfl (fun z hz Q' Q2 h1 h2 => ?_) (fun e he => ?_)
  · simp (config := { decide := false, maxSteps := 1000000 }) only [runD, wNil, wBreak, wCont, wSet, wDrop, wRet, wRetN, wIf, wFor, gN, gsNil, gsCons, gT, wAsg, wPar, dCel, dDat, dVar, dC, dOp2, dOp2d, gI2, gI0, dCmp, dBl, dAsB, gB2, gEq, dAnd, dOr, dNot, dAndV, dOrV, dNotV, gAdd, gMul, dNeg, iData, dI_lst, dI_klst, dI_tup, dI_ktup, iD_lst, iD_klst, iD_tup, iD_ktup, ln_lst, ln_klst, ln_tup, ln_ktup, iR1, iR2, iZipD, iEnumD, dYes, dLc, dIx, dIxN, ixD, optP, dVw, dPeek, dOp1, gInts, gBls, gList, gTuple, gLen, gInt, aNil, aCons, dTup, dLst, dDk, dDt, dAppend, dPop, wPutL, wPutD, DV.key, dDisp, ppN, ppC, DL.kvsOf, dPopAt, wAugI, dIf, exists_and_left, exists_and_right, exists_eq_left, exists_eq_left', exists_eq', exists_eq, exists_const, exists_false, or_false, false_or, false_and, and_false, and_assoc, Option.some.injEq, Cell.o.injEq, Cell.d.injEq, OC.k.injEq, OC.l.injEq, OC.t.injEq, OC.ins.injEq, DV.int.injEq, DV.bl.injEq, DV.str.injEq,  oNone, oSome, dSl, dSlN, gSl, dRev, dCmpV, dBlV, gIn, dIsN, gIsB, dGetN1, dGetN2, gIsi, dFld, wFld, wRaise, dChain, dCall, bNil, bCons, bBor, DL.cellOf, DL.borIx, DL.putB, DL.allOwn, DL.sameOwn, DL.borsAt, ownIx, parC, okSet, Cell.view, Cell.frz, OC.frz, OC.flat, Cell.own, Cell.bor, List.map_cons, List.map_nil, List.cons_append, List.nil_append, List.length_cons, List.length_nil, List.replicate_succ, List.replicate_zero, List.getElem?_cons_zero, List.getElem?_cons_succ, List.set_cons_zero, List.set_cons_succ, List.getD_cons_zero, List.getD_cons_succ, Option.bind_some, List.nodup_nil, List.nodup_cons, List.not_mem_nil, not_false_eq_true, true_and, and_true, if_true, if_false, ite_true, ite_false, reduceCtorEq, Nat.reduceAdd, Nat.reduceSub, Nat.zero_add, Nat.sub_self, Bool.not_true, Bool.not_false, Bool.false_eq_true, Bool.true_eq, DL.dataOf, conF, Option.map_some, Out.to, dNotInU, dIxU, wPutU, dListU, dDu, dBinOO, dNeO, dDisp1T, dDisp2T, gDictPT, gSortT, gMaxD, dMeth, dMake, isIns, isO, OC.u.injEq, ok_int, eqD_int]
    refine ⟨_, (hky z hz).1.ik, _, hval z hz, ?_⟩
    by_cases h0 : cf t (kyOf z) = 0
    · rw [if_neg (by rw [decide_eq_true h0]; intro z; cases z)]
      exact h2 (decide_eq_false (fun z => z h0)) _ rfl
    · rw [if_pos (by rw [decide_eq_false h0]; rfl)]
      exact h1 (decide_eq_true h0) _ rfl
  rw [← back_wipe, he]
  simp (config := { decide := false, maxSteps := 1000000 }) only [runD, wNil, wBreak, wCont, wSet, wDrop, wRet, wRetN, wIf, wFor, gN, gsNil, gsCons, gT, wAsg, wPar, dCel, dDat, dVar, dC, dOp2, dOp2d, gI2, gI0, dCmp, dBl, dAsB, gB2, gEq, dAnd, dOr, dNot, dAndV, dOrV, dNotV, gAdd, gMul, dNeg, iData, dI_lst, dI_klst, dI_tup, dI_ktup, iD_lst, iD_klst, iD_tup, iD_ktup, ln_lst, ln_klst, ln_tup, ln_ktup, iR1, iR2, iZipD, iEnumD, dYes, dLc, dIx, dIxN, ixD, optP, dVw, dPeek, dOp1, gInts, gBls, gList, gTuple, gLen, gInt, aNil, aCons, dTup, dLst, dDk, dDt, dAppend, dPop, wPutL, wPutD, DV.key, dDisp, ppN, ppC, DL.kvsOf, dPopAt, wAugI, dIf, exists_and_left, exists_and_right, exists_eq_left, exists_eq_left', exists_eq', exists_eq, exists_const, exists_false, or_false, false_or, false_and, and_false, and_assoc, Option.some.injEq, Cell.o.injEq, Cell.d.injEq, OC.k.injEq, OC.l.injEq, OC.t.injEq, OC.ins.injEq, DV.int.injEq, DV.bl.injEq, DV.str.injEq,  oNone, oSome, dSl, dSlN, gSl, dRev, dCmpV, dBlV, gIn, dIsN, gIsB, dGetN1, dGetN2, gIsi, dFld, wFld, wRaise, dChain, dCall, bNil, bCons, bBor, DL.cellOf, DL.borIx, DL.putB, DL.allOwn, DL.sameOwn, DL.borsAt, ownIx, parC, okSet, Cell.view, Cell.frz, OC.frz, OC.flat, Cell.own, Cell.bor, List.map_cons, List.map_nil, List.cons_append, List.nil_append, List.length_cons, List.length_nil, List.replicate_succ, List.replicate_zero, List.getElem?_cons_zero, List.getElem?_cons_succ, List.set_cons_zero, List.set_cons_succ, List.getD_cons_zero, List.getD_cons_succ, Option.bind_some, List.nodup_nil, List.nodup_cons, List.not_mem_nil, not_false_eq_true, true_and, and_true, if_true, if_false, ite_true, ite_false, reduceCtorEq, Nat.reduceAdd, Nat.reduceSub, Nat.zero_add, Nat.sub_self, Bool.not_true, Bool.not_false, Bool.false_eq_true, Bool.true_eq, DL.dataOf, conF, Option.map_some, Out.to, backD, List.map_id]
  generalize hzs : ys.filter (fun z => decide (cf t (kyOf z) ≠ 0)) = zs at hT
  have zsub : ∀ z ∈ zs, z ∈ ys := fun z hz => by rw [← hzs] at hz; exact (List.mem_filter.mp hz).1
  have zl : zs.length ≤ LINE := by rw [← hzs]; exact Nat.le_trans (List.length_filter_le _ _) hyl
  clear hzs
  subst hk1
  refine seq_gen fun k1 hk1 => ?_
  simp (config := { decide := false, maxSteps := 1000000 }) only [runD, wNil, wBreak, wCont, wSet, wDrop, wRet, wRetN, wIf, wFor, gN, gsNil, gsCons, gT, wAsg, wPar, dCel, dDat, dVar, dC, dOp2, dOp2d, gI2, gI0, dCmp, dBl, dAsB, gB2, gEq, dAnd, dOr, dNot, dAndV, dOrV, dNotV, gAdd, gMul, dNeg, iData, dI_lst, dI_klst, dI_tup, dI_ktup, iD_lst, iD_klst, iD_tup, iD_ktup, ln_lst, ln_klst, ln_tup, ln_ktup, iR1, iR2, iZipD, iEnumD, dYes, dLc, dIx, dIxN, ixD, optP, dVw, dPeek, dOp1, gInts, gBls, gList, gTuple, gLen, gInt, aNil, aCons, dTup, dLst, dDk, dDt, dAppend, dPop, wPutL, wPutD, DV.key, dDisp, ppN, ppC, DL.kvsOf, dPopAt, wAugI, dIf, exists_and_left, exists_and_right, exists_eq_left, exists_eq_left', exists_eq', exists_eq, exists_const, exists_false, or_false, false_or, false_and, and_false, and_assoc, Option.some.injEq, Cell.o.injEq, Cell.d.injEq, OC.k.injEq, OC.l.injEq, OC.t.injEq, OC.ins.injEq, DV.int.injEq, DV.bl.injEq, DV.str.injEq,  oNone, oSome, dSl, dSlN, gSl, dRev, dCmpV, dBlV, gIn, dIsN, gIsB, dGetN1, dGetN2, gIsi, dFld, wFld, wRaise, dChain, dCall, bNil, bCons, bBor, DL.cellOf, DL.borIx, DL.putB, DL.allOwn, DL.sameOwn, DL.borsAt, ownIx, parC, okSet, Cell.view, Cell.frz, OC.frz, OC.flat, Cell.own, Cell.bor, List.map_cons, List.map_nil, List.cons_append, List.nil_append, List.length_cons, List.length_nil, List.replicate_succ, List.replicate_zero, List.getElem?_cons_zero, List.getElem?_cons_succ, List.set_cons_zero, List.set_cons_succ, List.getD_cons_zero, List.getD_cons_succ, Option.bind_some, List.nodup_nil, List.nodup_cons, List.not_mem_nil, not_false_eq_true, true_and, and_true, if_true, if_false, ite_true, ite_false, reduceCtorEq, Nat.reduceAdd, Nat.reduceSub, Nat.zero_add, Nat.sub_self, Bool.not_true, Bool.not_false, Bool.false_eq_true, Bool.true_eq, DL.dataOf, conF, Option.map_some, Out.to, dNotInU, dIxU, wPutU, dListU, dDu, dBinOO, dNeO, dDisp1T, dDisp2T, gDictPT, gSortT, gMaxD, dMeth, dMake, isIns, isO, OC.u.injEq]
  refine ⟨fun v hv c hc => by cases List.mem_singleton.mp hv; cases hc; exact hy, ?_⟩
  refine lc_mapI (termOf t) (E0 := [.o b (.ins C []), c1, .o false (.u kvs), x, .un, .d (.lst zs), .un, .un, .un, .un]) zs _ rfl (fun z hz Q' hq => ?_) (fun e he => ?_)
  · simp (config := { decide := false, maxSteps := 1000000 }) only [runD, wNil, wBreak, wCont, wSet, wDrop, wRet, wRetN, wIf, wFor, gN, gsNil, gsCons, gT, wAsg, wPar, dCel, dDat, dVar, dC, dOp2, dOp2d, gI2, gI0, dCmp, dBl, dAsB, gB2, gEq, dAnd, dOr, dNot, dAndV, dOrV, dNotV, gAdd, gMul, dNeg, iData, dI_lst, dI_klst, dI_tup, dI_ktup, iD_lst, iD_klst, iD_tup, iD_ktup, ln_lst, ln_klst, ln_tup, ln_ktup, iR1, iR2, iZipD, iEnumD, dYes, dLc, dIx, dIxN, ixD, optP, dVw, dPeek, dOp1, gInts, gBls, gList, gTuple, gLen, gInt, aNil, aCons, dTup, dLst, dDk, dDt, dAppend, dPop, wPutL, wPutD, DV.key, dDisp, ppN, ppC, DL.kvsOf, dPopAt, wAugI, dIf, exists_and_left, exists_and_right, exists_eq_left, exists_eq_left', exists_eq', exists_eq, exists_const, exists_false, or_false, false_or, false_and, and_false, and_assoc, Option.some.injEq, Cell.o.injEq, Cell.d.injEq, OC.k.injEq, OC.l.injEq, OC.t.injEq, OC.ins.injEq, DV.int.injEq, DV.bl.injEq, DV.str.injEq,  oNone, oSome, dSl, dSlN, gSl, dRev, dCmpV, dBlV, gIn, dIsN, gIsB, dGetN1, dGetN2, gIsi, dFld, wFld, wRaise, dChain, dCall, bNil, bCons, bBor, DL.cellOf, DL.borIx, DL.putB, DL.allOwn, DL.sameOwn, DL.borsAt, ownIx, parC, okSet, Cell.view, Cell.frz, OC.frz, OC.flat, Cell.own, Cell.bor, List.map_cons, List.map_nil, List.cons_append, List.nil_append, List.length_cons, List.length_nil, List.replicate_succ, List.replicate_zero, List.getElem?_cons_zero, List.getElem?_cons_succ, List.set_cons_zero, List.set_cons_succ, List.getD_cons_zero, List.getD_cons_succ, Option.bind_some, List.nodup_nil, List.nodup_cons, List.not_mem_nil, not_false_eq_true, true_and, and_true, if_true, if_false, ite_true, ite_false, reduceCtorEq, Nat.reduceAdd, Nat.reduceSub, Nat.zero_add, Nat.sub_self, Bool.not_true, Bool.not_false, Bool.false_eq_true, Bool.true_eq, DL.dataOf, conF, Option.map_some, Out.to, dNotInU, dIxU, wPutU, dListU, dDu, dBinOO, dNeO, dDisp1T, dDisp2T, gDictPT, gSortT, gMaxD, dMeth, dMake, isIns, isO, OC.u.injEq, ok_int]
    refine ⟨_, (hky z (zsub z hz)).1.ik, _, hval z (zsub z hz), by decide, ?_⟩
    exact hq _ rfl
  rw [← back_wipe, he]
  simp (config := { decide := false, maxSteps := 1000000 }) only [runD, wNil, wBreak, wCont, wSet, wDrop, wRet, wRetN, wIf, wFor, gN, gsNil, gsCons, gT, wAsg, wPar, dCel, dDat, dVar, dC, dOp2, dOp2d, gI2, gI0, dCmp, dBl, dAsB, gB2, gEq, dAnd, dOr, dNot, dAndV, dOrV, dNotV, gAdd, gMul, dNeg, iData, dI_lst, dI_klst, dI_tup, dI_ktup, iD_lst, iD_klst, iD_tup, iD_ktup, ln_lst, ln_klst, ln_tup, ln_ktup, iR1, iR2, iZipD, iEnumD, dYes, dLc, dIx, dIxN, ixD, optP, dVw, dPeek, dOp1, gInts, gBls, gList, gTuple, gLen, gInt, aNil, aCons, dTup, dLst, dDk, dDt, dAppend, dPop, wPutL, wPutD, DV.key, dDisp, ppN, ppC, DL.kvsOf, dPopAt, wAugI, dIf, exists_and_left, exists_and_right, exists_eq_left, exists_eq_left', exists_eq', exists_eq, exists_const, exists_false, or_false, false_or, false_and, and_false, and_assoc, Option.some.injEq, Cell.o.injEq, Cell.d.injEq, OC.k.injEq, OC.l.injEq, OC.t.injEq, OC.ins.injEq, DV.int.injEq, DV.bl.injEq, DV.str.injEq,  oNone, oSome, dSl, dSlN, gSl, dRev, dCmpV, dBlV, gIn, dIsN, gIsB, dGetN1, dGetN2, gIsi, dFld, wFld, wRaise, dChain, dCall, bNil, bCons, bBor, DL.cellOf, DL.borIx, DL.putB, DL.allOwn, DL.sameOwn, DL.borsAt, ownIx, parC, okSet, Cell.view, Cell.frz, OC.frz, OC.flat, Cell.own, Cell.bor, List.map_cons, List.map_nil, List.cons_append, List.nil_append, List.length_cons, List.length_nil, List.replicate_succ, List.replicate_zero, List.getElem?_cons_zero, List.getElem?_cons_succ, List.set_cons_zero, List.set_cons_succ, List.getD_cons_zero, List.getD_cons_succ, Option.bind_some, List.nodup_nil, List.nodup_cons, List.not_mem_nil, not_false_eq_true, true_and, and_true, if_true, if_false, ite_true, ite_false, reduceCtorEq, Nat.reduceAdd, Nat.reduceSub, Nat.zero_add, Nat.sub_self, Bool.not_true, Bool.not_false, Bool.false_eq_true, Bool.true_eq, DL.dataOf, conF, Option.map_some, Out.to, backD, pf1]
  refine ⟨by decide, ?_⟩
  obtain ⟨xs, ex, _, hx⟩ := id hT.un
  rw [← ex] at hT ⊢
  have xl : xs.length ≤ LINE := by
    have := congrArg List.length ex
    rw [List.length_map, List.length_map] at this
    omega
  subst hk1
  refine seq_gen fun k1 hk1 => ?_
  simp (config := { decide := false, maxSteps := 1000000 }) only [runD, wNil, wBreak, wCont, wSet, wDrop, wRet, wRetN, wIf, wFor, gN, gsNil, gsCons, gT, wAsg, wPar, dCel, dDat, dVar, dC, dOp2, dOp2d, gI2, gI0, dCmp, dBl, dAsB, gB2, gEq, dAnd, dOr, dNot, dAndV, dOrV, dNotV, gAdd, gMul, dNeg, iData, dI_lst, dI_klst, dI_tup, dI_ktup, iD_lst, iD_klst, iD_tup, iD_ktup, ln_lst, ln_klst, ln_tup, ln_ktup, iR1, iR2, iZipD, iEnumD, dYes, dLc, dIx, dIxN, ixD, optP, dVw, dPeek, dOp1, gInts, gBls, gList, gTuple, gLen, gInt, aNil, aCons, dTup, dLst, dDk, dDt, dAppend, dPop, wPutL, wPutD, DV.key, dDisp, ppN, ppC, DL.kvsOf, dPopAt, wAugI, dIf, exists_and_left, exists_and_right, exists_eq_left, exists_eq_left', exists_eq', exists_eq, exists_const, exists_false, or_false, false_or, false_and, and_false, and_assoc, Option.some.injEq, Cell.o.injEq, Cell.d.injEq, OC.k.injEq, OC.l.injEq, OC.t.injEq, OC.ins.injEq, DV.int.injEq, DV.bl.injEq, DV.str.injEq,  oNone, oSome, dSl, dSlN, gSl, dRev, dCmpV, dBlV, gIn, dIsN, gIsB, dGetN1, dGetN2, gIsi, dFld, wFld, wRaise, dChain, dCall, bNil, bCons, bBor, DL.cellOf, DL.borIx, DL.putB, DL.allOwn, DL.sameOwn, DL.borsAt, ownIx, parC, okSet, Cell.view, Cell.frz, OC.frz, OC.flat, Cell.own, Cell.bor, List.map_cons, List.map_nil, List.cons_append, List.nil_append, List.length_cons, List.length_nil, List.replicate_succ, List.replicate_zero, List.getElem?_cons_zero, List.getElem?_cons_succ, List.set_cons_zero, List.set_cons_succ, List.getD_cons_zero, List.getD_cons_succ, Option.bind_some, List.nodup_nil, List.nodup_cons, List.not_mem_nil, not_false_eq_true, true_and, and_true, if_true, if_false, ite_true, ite_false, reduceCtorEq, Nat.reduceAdd, Nat.reduceSub, Nat.zero_add, Nat.sub_self, Bool.not_true, Bool.not_false, Bool.false_eq_true, Bool.true_eq, DL.dataOf, conF, Option.map_some, Out.to, dNotInU, dIxU, wPutU, dListU, dDu, dBinOO, dNeO, dDisp1T, dDisp2T, gDictPT, gSortT, gMaxD, dMeth, dMake, isIns, isO, OC.u.injEq]
  refine ⟨by decide, by decide, ?_, ?_⟩
  · intro v hv c hc
    cases List.mem_singleton.mp hv
    cases hc
    rfl
  refine lc_relI (fun d => ∃ ns : List Int, d = .lst (ns.map DV.int)) (E0 := [.o b (.ins C [("terms", .tup (xs.map triV))]), c1, .o false (.u kvs), x, y, .d (.lst zs), .un, .un, .un, .un]) _ _ rfl (fun r hr Q' hq => ?_) (fun szs e hl2 hT2 he => ?_)
  · have hr3 : r = .int 0 ∨ r = .int 1 ∨ r = .int 2 := by
      have hr : r ∈ ([.int 0, .int 1, .int 2] : List DV) := hr
      simpa using hr
    rcases hr3 with rfl | rfl | rfl
    all_goals
      simp (config := { decide := false, maxSteps := 1000000 }) only [runD, wNil, wBreak, wCont, wSet, wDrop, wRet, wRetN, wIf, wFor, gN, gsNil, gsCons, gT, wAsg, wPar, dCel, dDat, dVar, dC, dOp2, dOp2d, gI2, gI0, dCmp, dBl, dAsB, gB2, gEq, dAnd, dOr, dNot, dAndV, dOrV, dNotV, gAdd, gMul, dNeg, iData, dI_lst, dI_klst, dI_tup, dI_ktup, iD_lst, iD_klst, iD_tup, iD_ktup, ln_lst, ln_klst, ln_tup, ln_ktup, iR1, iR2, iZipD, iEnumD, dYes, dLc, dIx, dIxN, ixD, optP, dVw, dPeek, dOp1, gInts, gBls, gList, gTuple, gLen, gInt, aNil, aCons, dTup, dLst, dDk, dDt, dAppend, dPop, wPutL, wPutD, DV.key, dDisp, ppN, ppC, DL.kvsOf, dPopAt, wAugI, dIf, exists_and_left, exists_and_right, exists_eq_left, exists_eq_left', exists_eq', exists_eq, exists_const, exists_false, or_false, false_or, false_and, and_false, and_assoc, Option.some.injEq, Cell.o.injEq, Cell.d.injEq, OC.k.injEq, OC.l.injEq, OC.t.injEq, OC.ins.injEq, DV.int.injEq, DV.bl.injEq, DV.str.injEq,  oNone, oSome, dSl, dSlN, gSl, dRev, dCmpV, dBlV, gIn, dIsN, gIsB, dGetN1, dGetN2, gIsi, dFld, wFld, wRaise, dChain, dCall, bNil, bCons, bBor, DL.cellOf, DL.borIx, DL.putB, DL.allOwn, DL.sameOwn, DL.borsAt, ownIx, parC, okSet, Cell.view, Cell.frz, OC.frz, OC.flat, Cell.own, Cell.bor, List.map_cons, List.map_nil, List.cons_append, List.nil_append, List.length_cons, List.length_nil, List.replicate_succ, List.replicate_zero, List.getElem?_cons_zero, List.getElem?_cons_succ, List.set_cons_zero, List.set_cons_succ, List.getD_cons_zero, List.getD_cons_succ, Option.bind_some, List.nodup_nil, List.nodup_cons, List.not_mem_nil, not_false_eq_true, true_and, and_true, if_true, if_false, ite_true, ite_false, reduceCtorEq, Nat.reduceAdd, Nat.reduceSub, Nat.zero_add, Nat.sub_self, Bool.not_true, Bool.not_false, Bool.false_eq_true, Bool.true_eq, DL.dataOf, conF, Option.map_some, Out.to, dNotInU, dIxU, wPutU, dListU, dDu, dBinOO, dNeO, dDisp1T, dDisp2T, gDictPT, gSortT, gMaxD, dMeth, dMake, isIns, isO, OC.u.injEq, fl1]
      refine ⟨fun v hv c hc => by
        simp only [List.mem_cons, List.not_mem_nil, or_false] at hv
        rcases hv with rfl | rfl
        · cases hc; exact hy
        · cases hc; rfl, ?_⟩
      refine lc_rel (e := triV) (fun d => ∃ n : Int, d = .int n) (E0 := [.o b (.ins C [("terms", .tup (xs.map triV))]), c1, .o false (.u kvs), x, .un, .d (.lst zs), .un, .d _, .un, .un]) xs _ _ rfl (fun q hq' Q2 hq2 => ?_) (fun ws e' _ hw he' => ?_)
      · unfold triV
        rcases hx q hq' with e0 | e0
        all_goals
          rw [e0]
          simp (config := { decide := false, maxSteps := 1000000 }) only [runD, wNil, wBreak, wCont, wSet, wDrop, wRet, wRetN, wIf, wFor, gN, gsNil, gsCons, gT, wAsg, wPar, dCel, dDat, dVar, dC, dOp2, dOp2d, gI2, gI0, dCmp, dBl, dAsB, gB2, gEq, dAnd, dOr, dNot, dAndV, dOrV, dNotV, gAdd, gMul, dNeg, iData, dI_lst, dI_klst, dI_tup, dI_ktup, iD_lst, iD_klst, iD_tup, iD_ktup, ln_lst, ln_klst, ln_tup, ln_ktup, iR1, iR2, iZipD, iEnumD, dYes, dLc, dIx, dIxN, ixD, optP, dVw, dPeek, dOp1, gInts, gBls, gList, gTuple, gLen, gInt, aNil, aCons, dTup, dLst, dDk, dDt, dAppend, dPop, wPutL, wPutD, DV.key, dDisp, ppN, ppC, DL.kvsOf, dPopAt, wAugI, dIf, exists_and_left, exists_and_right, exists_eq_left, exists_eq_left', exists_eq', exists_eq, exists_const, exists_false, or_false, false_or, false_and, and_false, and_assoc, Option.some.injEq, Cell.o.injEq, Cell.d.injEq, OC.k.injEq, OC.l.injEq, OC.t.injEq, OC.ins.injEq, DV.int.injEq, DV.bl.injEq, DV.str.injEq,  oNone, oSome, dSl, dSlN, gSl, dRev, dCmpV, dBlV, gIn, dIsN, gIsB, dGetN1, dGetN2, gIsi, dFld, wFld, wRaise, dChain, dCall, bNil, bCons, bBor, DL.cellOf, DL.borIx, DL.putB, DL.allOwn, DL.sameOwn, DL.borsAt, ownIx, parC, okSet, Cell.view, Cell.frz, OC.frz, OC.flat, Cell.own, Cell.bor, List.map_cons, List.map_nil, List.cons_append, List.nil_append, List.length_cons, List.length_nil, List.replicate_succ, List.replicate_zero, List.getElem?_cons_zero, List.getElem?_cons_succ, List.set_cons_zero, List.set_cons_succ, List.getD_cons_zero, List.getD_cons_succ, Option.bind_some, List.nodup_nil, List.nodup_cons, List.not_mem_nil, not_false_eq_true, true_and, and_true, if_true, if_false, ite_true, ite_false, reduceCtorEq, Nat.reduceAdd, Nat.reduceSub, Nat.zero_add, Nat.sub_self, Bool.not_true, Bool.not_false, Bool.false_eq_true, Bool.true_eq, DL.dataOf, conF, Option.map_some, Out.to, k3v, at30, at31, at32]
          exact hq2 _ _ ⟨_, rfl⟩ rfl
      · rw [← back_wipe, he']
        simp (config := { decide := false, maxSteps := 1000000 }) only [runD, wNil, wBreak, wCont, wSet, wDrop, wRet, wRetN, wIf, wFor, gN, gsNil, gsCons, gT, wAsg, wPar, dCel, dDat, dVar, dC, dOp2, dOp2d, gI2, gI0, dCmp, dBl, dAsB, gB2, gEq, dAnd, dOr, dNot, dAndV, dOrV, dNotV, gAdd, gMul, dNeg, iData, dI_lst, dI_klst, dI_tup, dI_ktup, iD_lst, iD_klst, iD_tup, iD_ktup, ln_lst, ln_klst, ln_tup, ln_ktup, iR1, iR2, iZipD, iEnumD, dYes, dLc, dIx, dIxN, ixD, optP, dVw, dPeek, dOp1, gInts, gBls, gList, gTuple, gLen, gInt, aNil, aCons, dTup, dLst, dDk, dDt, dAppend, dPop, wPutL, wPutD, DV.key, dDisp, ppN, ppC, DL.kvsOf, dPopAt, wAugI, dIf, exists_and_left, exists_and_right, exists_eq_left, exists_eq_left', exists_eq', exists_eq, exists_const, exists_false, or_false, false_or, false_and, and_false, and_assoc, Option.some.injEq, Cell.o.injEq, Cell.d.injEq, OC.k.injEq, OC.l.injEq, OC.t.injEq, OC.ins.injEq, DV.int.injEq, DV.bl.injEq, DV.str.injEq,  oNone, oSome, dSl, dSlN, gSl, dRev, dCmpV, dBlV, gIn, dIsN, gIsB, dGetN1, dGetN2, gIsi, dFld, wFld, wRaise, dChain, dCall, bNil, bCons, bBor, DL.cellOf, DL.borIx, DL.putB, DL.allOwn, DL.sameOwn, DL.borsAt, ownIx, parC, okSet, Cell.view, Cell.frz, OC.frz, OC.flat, Cell.own, Cell.bor, List.map_cons, List.map_nil, List.cons_append, List.nil_append, List.length_cons, List.length_nil, List.replicate_succ, List.replicate_zero, List.getElem?_cons_zero, List.getElem?_cons_succ, List.set_cons_zero, List.set_cons_succ, List.getD_cons_zero, List.getD_cons_succ, Option.bind_some, List.nodup_nil, List.nodup_cons, List.not_mem_nil, not_false_eq_true, true_and, and_true, if_true, if_false, ite_true, ite_false, reduceCtorEq, Nat.reduceAdd, Nat.reduceSub, Nat.zero_add, Nat.sub_self, Bool.not_true, Bool.not_false, Bool.false_eq_true, Bool.true_eq, DL.dataOf, conF, Option.map_some, Out.to, backD]
        obtain ⟨ns, ens⟩ := ints_ex hw
        exact hq _ _ ⟨ns, by rw [ens]⟩ rfl
  rw [← back_wipe, he]
  simp (config := { decide := false, maxSteps := 1000000 }) only [runD, wNil, wBreak, wCont, wSet, wDrop, wRet, wRetN, wIf, wFor, gN, gsNil, gsCons, gT, wAsg, wPar, dCel, dDat, dVar, dC, dOp2, dOp2d, gI2, gI0, dCmp, dBl, dAsB, gB2, gEq, dAnd, dOr, dNot, dAndV, dOrV, dNotV, gAdd, gMul, dNeg, iData, dI_lst, dI_klst, dI_tup, dI_ktup, iD_lst, iD_klst, iD_tup, iD_ktup, ln_lst, ln_klst, ln_tup, ln_ktup, iR1, iR2, iZipD, iEnumD, dYes, dLc, dIx, dIxN, ixD, optP, dVw, dPeek, dOp1, gInts, gBls, gList, gTuple, gLen, gInt, aNil, aCons, dTup, dLst, dDk, dDt, dAppend, dPop, wPutL, wPutD, DV.key, dDisp, ppN, ppC, DL.kvsOf, dPopAt, wAugI, dIf, exists_and_left, exists_and_right, exists_eq_left, exists_eq_left', exists_eq', exists_eq, exists_const, exists_false, or_false, false_or, false_and, and_false, and_assoc, Option.some.injEq, Cell.o.injEq, Cell.d.injEq, OC.k.injEq, OC.l.injEq, OC.t.injEq, OC.ins.injEq, DV.int.injEq, DV.bl.injEq, DV.str.injEq,  oNone, oSome, dSl, dSlN, gSl, dRev, dCmpV, dBlV, gIn, dIsN, gIsB, dGetN1, dGetN2, gIsi, dFld, wFld, wRaise, dChain, dCall, bNil, bCons, bBor, DL.cellOf, DL.borIx, DL.putB, DL.allOwn, DL.sameOwn, DL.borsAt, ownIx, parC, okSet, Cell.view, Cell.frz, OC.frz, OC.flat, Cell.own, Cell.bor, List.map_cons, List.map_nil, List.cons_append, List.nil_append, List.length_cons, List.length_nil, List.replicate_succ, List.replicate_zero, List.getElem?_cons_zero, List.getElem?_cons_succ, List.set_cons_zero, List.set_cons_succ, List.getD_cons_zero, List.getD_cons_succ, Option.bind_some, List.nodup_nil, List.nodup_cons, List.not_mem_nil, not_false_eq_true, true_and, and_true, if_true, if_false, ite_true, ite_false, reduceCtorEq, Nat.reduceAdd, Nat.reduceSub, Nat.zero_add, Nat.sub_self, Bool.not_true, Bool.not_false, Bool.false_eq_true, Bool.true_eq, DL.dataOf, conF, Option.map_some, Out.to, backD]
  subst hk1
  refine seq_gen fun k1 hk1 => ?_
  simp (config := { decide := false, maxSteps := 1000000 }) only [runD, wNil, wBreak, wCont, wSet, wDrop, wRet, wRetN, wIf, wFor, gN, gsNil, gsCons, gT, wAsg, wPar, dCel, dDat, dVar, dC, dOp2, dOp2d, gI2, gI0, dCmp, dBl, dAsB, gB2, gEq, dAnd, dOr, dNot, dAndV, dOrV, dNotV, gAdd, gMul, dNeg, iData, dI_lst, dI_klst, dI_tup, dI_ktup, iD_lst, iD_klst, iD_tup, iD_ktup, ln_lst, ln_klst, ln_tup, ln_ktup, iR1, iR2, iZipD, iEnumD, dYes, dLc, dIx, dIxN, ixD, optP, dVw, dPeek, dOp1, gInts, gBls, gList, gTuple, gLen, gInt, aNil, aCons, dTup, dLst, dDk, dDt, dAppend, dPop, wPutL, wPutD, DV.key, dDisp, ppN, ppC, DL.kvsOf, dPopAt, wAugI, dIf, exists_and_left, exists_and_right, exists_eq_left, exists_eq_left', exists_eq', exists_eq, exists_const, exists_false, or_false, false_or, false_and, and_false, and_assoc, Option.some.injEq, Cell.o.injEq, Cell.d.injEq, OC.k.injEq, OC.l.injEq, OC.t.injEq, OC.ins.injEq, DV.int.injEq, DV.bl.injEq, DV.str.injEq,  oNone, oSome, dSl, dSlN, gSl, dRev, dCmpV, dBlV, gIn, dIsN, gIsB, dGetN1, dGetN2, gIsi, dFld, wFld, wRaise, dChain, dCall, bNil, bCons, bBor, DL.cellOf, DL.borIx, DL.putB, DL.allOwn, DL.sameOwn, DL.borsAt, ownIx, parC, okSet, Cell.view, Cell.frz, OC.frz, OC.flat, Cell.own, Cell.bor, List.map_cons, List.map_nil, List.cons_append, List.nil_append, List.length_cons, List.length_nil, List.replicate_succ, List.replicate_zero, List.getElem?_cons_zero, List.getElem?_cons_succ, List.set_cons_zero, List.set_cons_succ, List.getD_cons_zero, List.getD_cons_succ, Option.bind_some, List.nodup_nil, List.nodup_cons, List.not_mem_nil, not_false_eq_true, true_and, and_true, if_true, if_false, ite_true, ite_false, reduceCtorEq, Nat.reduceAdd, Nat.reduceSub, Nat.zero_add, Nat.sub_self, Bool.not_true, Bool.not_false, Bool.false_eq_true, Bool.true_eq, DL.dataOf, conF, Option.map_some, Out.to, dNotInU, dIxU, wPutU, dListU, dDu, dBinOO, dNeO, dDisp1T, dDisp2T, gDictPT, gSortT, gMaxD, dMeth, dMake, isIns, isO, OC.u.injEq]
  refine ⟨fun v hv c hc => by cases List.mem_singleton.mp hv; cases hc; rfl, ?_⟩
  refine lc_relI (fun _ => True) (E0 := [.o b (.ins C [("terms", .tup (xs.map triV))]), c1, .o false (.u kvs), x, y, .d (.lst zs), .d (.lst szs), .un, .un, .un]) _ _ rfl (fun r hr Q' hq => ?_) (fun rs e hl3 _ he => ?_)
  · obtain ⟨ns, rfl⟩ := hT2 r hr
    simp (config := { decide := false, maxSteps := 1000000 }) only [runD, wNil, wBreak, wCont, wSet, wDrop, wRet, wRetN, wIf, wFor, gN, gsNil, gsCons, gT, wAsg, wPar, dCel, dDat, dVar, dC, dOp2, dOp2d, gI2, gI0, dCmp, dBl, dAsB, gB2, gEq, dAnd, dOr, dNot, dAndV, dOrV, dNotV, gAdd, gMul, dNeg, iData, dI_lst, dI_klst, dI_tup, dI_ktup, iD_lst, iD_klst, iD_tup, iD_ktup, ln_lst, ln_klst, ln_tup, ln_ktup, iR1, iR2, iZipD, iEnumD, dYes, dLc, dIx, dIxN, ixD, optP, dVw, dPeek, dOp1, gInts, gBls, gList, gTuple, gLen, gInt, aNil, aCons, dTup, dLst, dDk, dDt, dAppend, dPop, wPutL, wPutD, DV.key, dDisp, ppN, ppC, DL.kvsOf, dPopAt, wAugI, dIf, exists_and_left, exists_and_right, exists_eq_left, exists_eq_left', exists_eq', exists_eq, exists_const, exists_false, or_false, false_or, false_and, and_false, and_assoc, Option.some.injEq, Cell.o.injEq, Cell.d.injEq, OC.k.injEq, OC.l.injEq, OC.t.injEq, OC.ins.injEq, DV.int.injEq, DV.bl.injEq, DV.str.injEq,  oNone, oSome, dSl, dSlN, gSl, dRev, dCmpV, dBlV, gIn, dIsN, gIsB, dGetN1, dGetN2, gIsi, dFld, wFld, wRaise, dChain, dCall, bNil, bCons, bBor, DL.cellOf, DL.borIx, DL.putB, DL.allOwn, DL.sameOwn, DL.borsAt, ownIx, parC, okSet, Cell.view, Cell.frz, OC.frz, OC.flat, Cell.own, Cell.bor, List.map_cons, List.map_nil, List.cons_append, List.nil_append, List.length_cons, List.length_nil, List.replicate_succ, List.replicate_zero, List.getElem?_cons_zero, List.getElem?_cons_succ, List.set_cons_zero, List.set_cons_succ, List.getD_cons_zero, List.getD_cons_succ, Option.bind_some, List.nodup_nil, List.nodup_cons, List.not_mem_nil, not_false_eq_true, true_and, and_true, if_true, if_false, ite_true, ite_false, reduceCtorEq, Nat.reduceAdd, Nat.reduceSub, Nat.zero_add, Nat.sub_self, Bool.not_true, Bool.not_false, Bool.false_eq_true, Bool.true_eq, DL.dataOf, conF, Option.map_some, Out.to, dNotInU, dIxU, wPutU, dListU, dDu, dBinOO, dNeO, dDisp1T, dDisp2T, gDictPT, gSortT, gMaxD, dMeth, dMake, isIns, isO, OC.u.injEq, ints_of]
    exact fun m _ _ => hq _ _ trivial rfl
  rw [← back_wipe, he]
  simp (config := { decide := false, maxSteps := 1000000 }) only [runD, wNil, wBreak, wCont, wSet, wDrop, wRet, wRetN, wIf, wFor, gN, gsNil, gsCons, gT, wAsg, wPar, dCel, dDat, dVar, dC, dOp2, dOp2d, gI2, gI0, dCmp, dBl, dAsB, gB2, gEq, dAnd, dOr, dNot, dAndV, dOrV, dNotV, gAdd, gMul, dNeg, iData, dI_lst, dI_klst, dI_tup, dI_ktup, iD_lst, iD_klst, iD_tup, iD_ktup, ln_lst, ln_klst, ln_tup, ln_ktup, iR1, iR2, iZipD, iEnumD, dYes, dLc, dIx, dIxN, ixD, optP, dVw, dPeek, dOp1, gInts, gBls, gList, gTuple, gLen, gInt, aNil, aCons, dTup, dLst, dDk, dDt, dAppend, dPop, wPutL, wPutD, DV.key, dDisp, ppN, ppC, DL.kvsOf, dPopAt, wAugI, dIf, exists_and_left, exists_and_right, exists_eq_left, exists_eq_left', exists_eq', exists_eq, exists_const, exists_false, or_false, false_or, false_and, and_false, and_assoc, Option.some.injEq, Cell.o.injEq, Cell.d.injEq, OC.k.injEq, OC.l.injEq, OC.t.injEq, OC.ins.injEq, DV.int.injEq, DV.bl.injEq, DV.str.injEq,  oNone, oSome, dSl, dSlN, gSl, dRev, dCmpV, dBlV, gIn, dIsN, gIsB, dGetN1, dGetN2, gIsi, dFld, wFld, wRaise, dChain, dCall, bNil, bCons, bBor, DL.cellOf, DL.borIx, DL.putB, DL.allOwn, DL.sameOwn, DL.borsAt, ownIx, parC, okSet, Cell.view, Cell.frz, OC.frz, OC.flat, Cell.own, Cell.bor, List.map_cons, List.map_nil, List.cons_append, List.nil_append, List.length_cons, List.length_nil, List.replicate_succ, List.replicate_zero, List.getElem?_cons_zero, List.getElem?_cons_succ, List.set_cons_zero, List.set_cons_succ, List.getD_cons_zero, List.getD_cons_succ, Option.bind_some, List.nodup_nil, List.nodup_cons, List.not_mem_nil, not_false_eq_true, true_and, and_true, if_true, if_false, ite_true, ite_false, reduceCtorEq, Nat.reduceAdd, Nat.reduceSub, Nat.zero_add, Nat.sub_self, Bool.not_true, Bool.not_false, Bool.false_eq_true, Bool.true_eq, DL.dataOf, conF, Option.map_some, Out.to, backD, pf2]
  refine ⟨by decide, ?_⟩
  subst hk1
  show D.nx _
  exact fin _ u _ ⟨hC, _, _, rfl, hT⟩ hE rfl
end LTX
set_option maxRecDepth 100000
set_option maxHeartbeats 4000000
/-! o.m(), the receiver by data, no argument -/
namespace DL
open PySem PySem.Spec PyProof.Rows L2
section
variable {X : Cx} {Z : ZX} {k : Nat} {C f : Addr} {m : Str} {fd : FuncData} {ps : List Str} {con : Con} {cf co : Nat} {p pos apos : Pos} {o : Expr} {fo : DD} {ds : List Value} {dvs : List V} {dds : List DV}
theorem pcMeth0 {pl : Sem Bool} (mc : ConMono con) (c : Cls X.K C) (hm : Meth X.K C m f) (G : FnOk X.prog X.w X.K X.mg X.base (L2.CX X.prog X.w) k f fd ps (SpD X.K Z.T cf con)) (hr : Room k X.A) (hx : Passes (L2.CX X.prog X.w) X Z.E) (hb : Binds X.K fd ps ds) (hd : Vals dvs ds) (hdd : ∀ F, HoldAll X.K F dvs dds) (ho : PEd X Z o co fo)
    (ht : eval (.Call (.Attribute o m apos) [] [] pos) X.env = (do
      let ov ← eval o X.env
      standAt apos.atName
      let (f, first) ← holding [ov] (getMethod ov m pl)
      callWith pos f first (backTo pos (starEach [] X.env)) (backToKw pos (keywordEach [] X.env))) := by rfl) :
    PEc X Z (.Call (.Attribute o m apos) [] [] pos) (co + cf) (dMeth C m con Z.G dds fo aNil) := by
  refine ⟨fun env Q Q' q h => ho.mono _ _ _ (fun x e h => ⟨h.1, mc _ _ _ _ _ (fun r os => q _ _) (fun _ _ _ z => z) h.2⟩) h, PE_imp (pe_meth0 ho.run c hm G hr hb hd hx ht) fun σ H Q ⟨B, F, n, env, hn, S, h⟩ => ?_⟩
  refine bindD ho.mono (by omega) S h fun x e1 v H1 F1 h1 S1 x1 hv => ?_
  obtain ⟨h0, h2⟩ := h1
  cases x with
  | ins C' fs =>
    obtain ⟨rfl, h0⟩ := h0
    cases hv with
    | ins ea en eh =>
      rename_i a dx us
      refine ⟨_, _, _, rfl, S1.same _ _ ea, (lookup_hold en eh m).2 h0, ?_⟩
      have hx1 : Hold X.K F1 (.ref a) (.ins C' fs) := .ins ea en eh
      have hargs : ArgsOk X.K F1 σ (V.ref a :: dvs) (argsD (.ins C' fs :: dds)) := argsD_ok (.cons hx1 (hdd F1))
      have hnd : (borIx (argsD (DV.ins C' fs :: dds))).Nodup := by rw [borIx_argsD]; exact List.nodup_nil
      have hal : allOwn e1 (borIx (argsD (DV.ins C' fs :: dds))) := by rw [borIx_argsD]; trivial
      have hcells := cells_argsD e1 (DV.ins C' fs :: dds)
      have p1 := (args_par S1.toCore hargs hal).1
      have p2 := ArgsOk.nodup S1.toCore hargs hnd hal
      rw [hcells] at p1 p2
      refine ⟨F1, n + co, _, Z.M, ⟨by omega, Z.ml⟩, S1.same, S1.tb, p1, p2, mc _ _ _ _ _ (fun r os h v H3 F3 pd => ?_) (fun C2 fs2 os gx d m2 H3 F3 g1 g2 px => ?_) h2⟩
      · rw [← hcells] at pd
        obtain ⟨S3, r3⟩ := S1.call hargs hnd hal (Nat.le_add_right _ _) pd
        rw [borIx_argsD] at S3 r3
        rw [show n + co + cf = n + (co + cf) by omega] at S3 r3
        have e0 : putB e1 [] os = e1 := by cases os <;> rfl
        rw [e0] at S3 r3
        exact h v H3 F3 S3 (x1.trans pd.ext) r3
      · have pf := px.toFrm
        rw [← hcells] at pf
        obtain ⟨S3, _⟩ := S1.toCore.call hargs hnd hal g1 pf
        rw [borIx_argsD] at S3
        have e0 : putB e1 [] os = e1 := by cases os <;> rfl
        rw [e0] at S3
        exact S1.lnk.2 F3 H3 m2 σ e1 C2 d fs2 S3 px.ext g1 g2 px.exc (S1.fresh0 px.new) gx
  | _ => exact h0.elim
end
end DL
set_option maxRecDepth 100000
set_option maxHeartbeats 4000000
/-! sums of powers as a commutative ring; stretched sums, parts, rests -/
namespace LTX
def negT (t : Tms) : Tms := t.map fun q => (q.1, -q.2)
theorem cf_neg (t : Tms) (k : K3) : cf (negT t) k = -cf t k := by
  induction t with
  | nil => rfl
  | cons p t ih =>
    show (if p.1 = k then -p.2 else 0) + cf (negT t) k = -((if p.1 = k then p.2 else 0) + cf t k)
    rw [ih]
    split <;> omega
instance eqvS : Setoid Tms := ⟨Eqv, Eqv.refl, Eqv.symm, Eqv.trans⟩
def Ply : Type := Quotient eqvS
def mk (t : Tms) : Ply := Quotient.mk eqvS t
theorem mk_of {s t : Tms} (h : Eqv s t) : mk s = mk t := Quotient.sound h
theorem mk_eq {s t : Tms} : mk s = mk t ↔ Eqv s t := ⟨fun h => Quotient.exact h, fun h => Quotient.sound h⟩
@[elab_as_elim] theorem ply_ind {P : Ply → Prop} (h : ∀ t, P (mk t)) (a : Ply) : P a := Quotient.ind h a
def conT (n : Int) : Tms := [((0, 0, 0), n)]
def addP : Ply → Ply → Ply := Quotient.lift₂ (fun s t => mk (s ++ t)) fun a b c d h g => mk_of fun k => by rw [cf_app, cf_app, h k, g k]
def mulP : Ply → Ply → Ply := Quotient.lift₂ (fun s t => mk (prods s t)) fun a b c d h g => mk_of (prods_congr h g)
def negP : Ply → Ply := Quotient.lift (fun s => mk (negT s)) fun a b h => mk_of fun k => by rw [cf_neg, cf_neg, h k]
def powP (a : Ply) : Nat → Ply
  | 0 => mk one
  | n + 1 => mulP (powP a n) a
theorem cf_con (n : Int) (k : K3) : cf (conT n) k = if ((0, 0, 0) : K3) = k then n else 0 := by
  show (if ((0, 0, 0) : K3) = k then n else 0) + 0 = _
  omega
theorem con_add (a b : Int) : Eqv (conT (a + b)) (conT a ++ conT b) := fun k => by
  rw [cf_app, cf_con, cf_con, cf_con]
  split <;> omega
theorem cf_conmul (n : Int) (t : Tms) (k : K3) : cf (prods (conT n) t) k = n * cf t k := by
  show cf (prods (((0, 0, 0), n) :: []) t) k = _
  rw [cf_prods_cons]
  have : sb k (0, 0, 0) = k := k3_ext (Int.sub_zero _) (Int.sub_zero _) (Int.sub_zero _)
  rw [this]
  show n * cf t k + 0 = _
  omega
theorem prods_app_right (s a b : Tms) : Eqv (prods s (a ++ b)) (prods s a ++ prods s b) := fun k => by
  rw [prods_comm s (a ++ b) k, prods_app, cf_app, cf_app, prods_comm a s k, prods_comm b s k]
theorem p_add0 (a : Ply) : addP a (mk (conT 0)) = a := ply_ind (fun s => mk_of (s := s ++ conT 0) (t := s) fun k => by
  rw [cf_app, cf_con]
  split <;> omega) a
theorem p_addc (a b : Ply) : addP a b = addP b a := ply_ind (fun s => ply_ind (fun t => mk_of (s := s ++ t) (t := t ++ s) fun k => by rw [cf_app, cf_app]; omega) b) a
theorem p_adda (a b c : Ply) : addP (addP a b) c = addP a (addP b c) := ply_ind (fun s => ply_ind (fun t => ply_ind (fun u => mk_of (s := s ++ t ++ u) (t := s ++ (t ++ u)) fun k => by rw [cf_app, cf_app, cf_app, cf_app]; omega) c) b) a
theorem p_mula (a b c : Ply) : mulP (mulP a b) c = mulP a (mulP b c) := ply_ind (fun s => ply_ind (fun t => ply_ind (fun u => mk_of (s := prods (prods s t) u) (t := prods s (prods t u)) fun k => by rw [prods_assoc]) c) b) a
theorem p_mulc (a b : Ply) : mulP a b = mulP b a := ply_ind (fun s => ply_ind (fun t => mk_of (prods_comm s t)) b) a
theorem p_mul1 (a : Ply) : mulP a (mk (conT 1)) = a := ply_ind (fun s => mk_of (s := prods s one) (t := s) fun k => by rw [prods_one]) a
theorem p_dist (a b c : Ply) : mulP a (addP b c) = addP (mulP a b) (mulP a c) := ply_ind (fun s => ply_ind (fun t => ply_ind (fun u => mk_of (prods_app_right s t u)) c) b) a
theorem p_zero (a : Ply) : mulP (mk (conT 0)) a = mk (conT 0) := ply_ind (fun s => mk_of (s := prods (conT 0) s) (t := conT 0) fun k => by
  rw [cf_conmul, cf_con, Int.zero_mul]
  split <;> rfl) a
theorem p_neg (a : Ply) : addP (negP a) a = mk (conT 0) := ply_ind (fun s => mk_of (s := negT s ++ s) (t := conT 0) fun k => by
  rw [cf_app, cf_neg, cf_con]
  split <;> omega) a
theorem p_negz (i : Int) (a : Ply) : mulP (mk (conT (-i))) a = negP (mulP (mk (conT i)) a) := ply_ind (fun s => mk_of (s := prods (conT (-i)) s) (t := negT (prods (conT i) s)) fun k => by
  rw [cf_neg, cf_conmul, cf_conmul, Int.neg_mul]) a
theorem p_negc (i : Int) : mk (conT (-i)) = negP (mk (conT i)) := mk_of (s := conT (-i)) (t := negT (conT i)) fun k => by
  rw [cf_neg, cf_con, cf_con]
  split <;> omega
theorem p_succ (n : Nat) : mk (conT ((n + 1 : Nat) : Int)) = addP (mk (conT (n : Int))) (mk (conT 1)) := mk_of (s := conT ((n : Int) + 1)) (t := conT n ++ conT 1) (con_add n 1)
instance ringP : Lean.Grind.Ring Ply where
  add := addP
  mul := mulP
  natCast := ⟨fun n => mk (conT (n : Int))⟩
  ofNat n := ⟨mk (conT (n : Int))⟩
  nsmul := ⟨fun n a => mulP (mk (conT (n : Int))) a⟩
  npow := ⟨powP⟩
  add_zero := p_add0
  add_comm := p_addc
  add_assoc := p_adda
  mul_assoc := p_mula
  mul_one := p_mul1
  one_mul a := (p_mulc _ a).trans (p_mul1 a)
  left_distrib := p_dist
  right_distrib a b c := (p_mulc _ c).trans ((p_dist c a b).trans (by rw [p_mulc c a, p_mulc c b]; rfl))
  zero_mul := p_zero
  mul_zero a := (p_mulc a _).trans (p_zero a)
  pow_zero a := rfl
  pow_succ a n := rfl
  ofNat_succ n := p_succ n
  ofNat_eq_natCast n := rfl
  nsmul_eq_natCast_mul n a := rfl
  neg := negP
  sub a b := addP a (negP b)
  intCast := ⟨fun n => mk (conT n)⟩
  zsmul := ⟨fun n a => mulP (mk (conT n)) a⟩
  neg_add_cancel := p_neg
  sub_eq_add_neg a b := rfl
  neg_zsmul := p_negz
  zsmul_natCast_eq_nsmul n a := rfl
  intCast_ofNat n := rfl
  intCast_neg := p_negc
instance cringP : Lean.Grind.CommRing Ply where
  mul_comm := p_mulc
theorem mk_mul (s t : Tms) : mk (prods s t) = mk s * mk t := rfl
theorem mk_add (s t : Tms) : mk (s ++ t) = mk s + mk t := rfl
theorem mk_pow (s : Tms) : ∀ n, mk (npow s n) = mk s ^ n
  | 0 => rfl
  | n + 1 => by
    show mk (prods (npow s n) s) = _
    rw [mk_mul, mk_pow s n]
    rfl
end LTX
set_option maxRecDepth 100000
set_option maxHeartbeats 4000000
/-! stretched sums, parts, rests: powers of sums modulo powers of a prime -/
namespace LTX
/-! ### a power of a sum, modulo a prime -/
def nc {R : Type} [Lean.Grind.CommRing R] (n : Nat) : R := Lean.Grind.Semiring.natCast.natCast n
def pc (n : Nat) : Ply := mk (conT (n : Int))
theorem nc_of {R : Type} [Lean.Grind.CommRing R] (n : Nat) : (nc (n + 2) : R) = OfNat.ofNat (n + 2) := (Lean.Grind.Semiring.ofNat_eq_natCast (n + 2)).symm
theorem pc_mul (a b : Nat) : pc (a * b) = pc a * pc b := mk_of (s := conT ((a * b : Nat) : Int)) (t := prods (conT a) (conT b)) fun k => by
  rw [cf_conmul, cf_con, cf_con]
  split
  · exact Int.natCast_mul a b
  · exact (Int.mul_zero _).symm
def Dream (p : Nat) : Prop := ∀ (R : Type) [Lean.Grind.CommRing R] (a b : R), ∃ c : R, (a + b) ^ p = a ^ p + b ^ p + nc p * c
def Lift (p : Nat) : Prop := ∀ (R : Type) [Lean.Grind.CommRing R] (b q' c : R), ∃ d : R, (b + nc p * q' * c) ^ p = b ^ p + nc p * (nc p * q') * d
theorem dream2 : Dream 2 := fun R _ a b => ⟨a * b, by
  have : (nc 2 : R) = 2 := nc_of 0
  grind⟩
theorem dream3 : Dream 3 := fun R _ a b => ⟨a ^ 2 * b + a * b ^ 2, by
  have : (nc 3 : R) = 3 := nc_of 1
  grind⟩
theorem dream5 : Dream 5 := fun R _ a b => ⟨a ^ 4 * b + 2 * a ^ 3 * b ^ 2 + 2 * a ^ 2 * b ^ 3 + a * b ^ 4, by
  have : (nc 5 : R) = 5 := nc_of 3
  grind⟩
theorem dream7 : Dream 7 := fun R _ a b => ⟨a ^ 6 * b + 3 * a ^ 5 * b ^ 2 + 5 * a ^ 4 * b ^ 3 + 5 * a ^ 3 * b ^ 4 + 3 * a ^ 2 * b ^ 5 + a * b ^ 6, by
  have : (nc 7 : R) = 7 := nc_of 5
  grind⟩
theorem lift2 : Lift 2 := fun R _ b q c => ⟨b * c + q * c ^ 2, by
  have : (nc 2 : R) = 2 := nc_of 0
  grind⟩
theorem lift3 : Lift 3 := fun R _ b q c => ⟨b ^ 2 * c + 3 * q * b * c ^ 2 + 3 * q ^ 2 * c ^ 3, by
  have : (nc 3 : R) = 3 := nc_of 1
  grind⟩
theorem lift5 : Lift 5 := fun R _ b q c => ⟨b ^ 4 * c + 2 * (5 * q) * b ^ 3 * c ^ 2 + 2 * (5 * q) ^ 2 * b ^ 2 * c ^ 3 + (5 * q) ^ 3 * b * c ^ 4 + q * (5 * q) ^ 3 * c ^ 5, by
  have : (nc 5 : R) = 5 := nc_of 3
  grind⟩
theorem lift7 : Lift 7 := fun R _ b q c => ⟨b ^ 6 * c + 3 * (7 * q) * b ^ 5 * c ^ 2 + 5 * (7 * q) ^ 2 * b ^ 4 * c ^ 3 + 5 * (7 * q) ^ 3 * b ^ 3 * c ^ 4 + 3 * (7 * q) ^ 4 * b ^ 2 * c ^ 5 + (7 * q) ^ 5 * b * c ^ 6 + q * (7 * q) ^ 5 * c ^ 7, by
  have : (nc 7 : R) = 7 := nc_of 5
  grind⟩
structure Pr (p : Nat) : Prop where
  pos : 1 < p
  dr : Dream p
  li : Lift p
theorem pr2 : Pr 2 := ⟨by decide, dream2, lift2⟩
theorem pr3 : Pr 3 := ⟨by decide, dream3, lift3⟩
theorem pr5 : Pr 5 := ⟨by decide, dream5, lift5⟩
theorem pr7 : Pr 7 := ⟨by decide, dream7, lift7⟩
theorem fermat_nat {p : Nat} (h : Pr p) : ∀ n : Nat, ∃ w : Int, ((n : Int)) ^ p = n + (p : Int) * w
  | 0 => ⟨0, by
    have := h.pos
    rw [show ((0 : Nat) : Int) = 0 from rfl, Int.zero_pow (by omega), Int.mul_zero]
    rfl⟩
  | n + 1 => by
    obtain ⟨w, e⟩ := fermat_nat h n
    obtain ⟨c, e2⟩ : ∃ c : Int, ((n : Int) + 1) ^ p = (n : Int) ^ p + 1 ^ p + (p : Int) * c := h.dr Int (n : Int) 1
    refine ⟨w + c, ?_⟩
    rw [show ((n + 1 : Nat) : Int) = (n : Int) + 1 from rfl, e2, e, Int.one_pow, Int.mul_add]
    have : (((p : Nat) : Int)) = (p : Int) := rfl
    generalize (p : Int) * w = x
    generalize (p : Int) * c = y
    omega
theorem fermat {p : Nat} (h : Pr p) (v : Int) : ∃ w : Int, v ^ p = v + (p : Int) * w := by
  have hp := h.pos
  obtain ⟨n, e⟩ := Int.eq_ofNat_of_zero_le (Int.emod_nonneg v (show (p : Int) ≠ 0 by omega))
  obtain ⟨w, ew⟩ := fermat_nat h n
  obtain ⟨c, ec⟩ : ∃ c : Int, ((n : Int) + (p : Int) * (v / p)) ^ p = (n : Int) ^ p + ((p : Int) * (v / p)) ^ p + (p : Int) * c := h.dr Int (n : Int) ((p : Int) * (v / p))
  have dv := Int.emod_add_mul_ediv v p
  rw [e] at dv
  obtain ⟨m, rfl⟩ : ∃ m, p = m + 1 := ⟨p - 1, by omega⟩
  rw [dv] at ec
  refine ⟨w + (v / ((m + 1 : Nat) : Int)) * (((m + 1 : Nat) : Int) * (v / ((m + 1 : Nat) : Int))) ^ m + c - v / ((m + 1 : Nat) : Int), ?_⟩
  rw [ec, ew, Int.pow_succ]
  have dv2 : (n : Int) = v - ((m + 1 : Nat) : Int) * (v / ((m + 1 : Nat) : Int)) := by omega
  rw [dv2]
  generalize v / ((m + 1 : Nat) : Int) = z
  generalize ((m + 1 : Nat) : Int) = q
  generalize (q * z) ^ m = y
  grind
/-! ### stretched sums -/
def strK (p : Int) (k : K3) : K3 := (p * k.1, p * k.2.1, p * k.2.2)
def strT (p : Int) (t : Tms) : Tms := t.map fun q => (strK p q.1, q.2)
theorem strK_ad (p : Int) (a b : K3) : strK p (ad a b) = ad (strK p a) (strK p b) := k3_ext (Int.mul_add ..) (Int.mul_add ..) (Int.mul_add ..)
theorem strK_sb (p : Int) (a b : K3) : strK p (sb a b) = sb (strK p a) (strK p b) := k3_ext (Int.mul_sub ..) (Int.mul_sub ..) (Int.mul_sub ..)
theorem strK_inj {p : Int} (hp : p ≠ 0) {a b : K3} (h : strK p a = strK p b) : a = b := by
  have h1 := congrArg (·.1) h
  have h2 := congrArg (·.2.1) h
  have h3 := congrArg (·.2.2) h
  exact k3_ext (Int.eq_of_mul_eq_mul_left hp h1) (Int.eq_of_mul_eq_mul_left hp h2) (Int.eq_of_mul_eq_mul_left hp h3)
theorem cf_str {p : Int} (hp : p ≠ 0) (t : Tms) (k : K3) : cf (strT p t) (strK p k) = cf t k := by
  induction t with
  | nil => rfl
  | cons q t ih =>
    show (if strK p q.1 = strK p k then q.2 else 0) + cf (strT p t) (strK p k) = (if q.1 = k then q.2 else 0) + cf t k
    rw [ih]
    by_cases h : q.1 = k
    · rw [if_pos h, if_pos (by rw [h])]
    · rw [if_neg h, if_neg (fun z => h (strK_inj hp z))]
theorem str_eqv {p : Int} (hp : p ≠ 0) {s t : Tms} (h : Eqv s t) : Eqv (strT p s) (strT p t) := fun k => by
  by_cases e : ∃ k', k = strK p k'
  · obtain ⟨k', rfl⟩ := e
    rw [cf_str hp, cf_str hp, h]
  · have no : ∀ t : Tms, cf (strT p t) k = 0 := fun t => cf_none fun q hq z => by
      obtain ⟨r, _, rfl⟩ := List.mem_map.mp hq
      exact e ⟨r.1, z.symm⟩
    rw [no, no]
theorem str_app (p : Int) (s t : Tms) : strT p (s ++ t) = strT p s ++ strT p t := List.map_append
theorem str_prods (p : Int) (s t : Tms) : strT p (prods s t) = prods (strT p s) (strT p t) := by
  induction s with
  | nil => rfl
  | cons q s ih =>
    rw [prods_cons, str_app, ih]
    show _ = scal (strK p q.1, q.2) (strT p t) ++ prods (strT p s) (strT p t)
    congr 1
    unfold scal strT
    rw [List.map_map, List.map_map]
    refine List.map_congr_left fun r _ => ?_
    show (strK p (ad q.1 r.1), q.2 * r.2) = (ad (strK p q.1) (strK p r.1), q.2 * r.2)
    rw [strK_ad]
theorem str_one (p : Int) : strT p one = one := by
  show [(strK p (0, 0, 0), (1 : Int))] = one
  unfold strK
  rw [Int.mul_zero]
  rfl
theorem str_npow (p : Int) (s : Tms) : ∀ n, strT p (npow s n) = npow (strT p s) n
  | 0 => str_one p
  | n + 1 => by
    show strT p (prods (npow s n) s) = prods (npow (strT p s) n) (strT p s)
    rw [str_prods, str_npow p s n]
theorem str_len (p : Int) (t : Tms) : (strT p t).length = t.length := List.length_map ..
theorem str_nrm (p : Int) (t : Tms) : nrm (strT p t) = nrm t := by
  induction t with
  | nil => rfl
  | cons q t ih => show q.2.natAbs + nrm (strT p t) = q.2.natAbs + nrm t; rw [ih]
theorem str_nodup {p : Int} (hp : p ≠ 0) {t : Tms} (h : (t.map (·.1)).Nodup) : ((strT p t).map (·.1)).Nodup := by
  have e : (strT p t).map (·.1) = (t.map (·.1)).map (strK p) := by
    unfold strT
    rw [List.map_map, List.map_map]
    rfl
  rw [e]
  exact List.pairwise_map.mpr (h.imp fun {a b} hn z => hn (strK_inj hp z))
/-! ### to a power, modulo a prime's power -/
def Cg (m : Nat) (s t : Tms) : Prop := ∃ c : Ply, mk s = mk t + pc m * c
theorem cg_cf {m : Nat} {s t : Tms} (h : Cg m s t) : ∃ c : Tms, ∀ k, cf s k = cf t k + m * cf c k := by
  obtain ⟨c, e⟩ := h
  revert e
  refine ply_ind (P := fun c => mk s = mk t + pc m * c → ∃ c : Tms, ∀ k, cf s k = cf t k + m * cf c k) (fun c e => ?_) c
  have e : mk s = mk (t ++ prods (conT (m : Int)) c) := e
  refine ⟨c, fun k => ?_⟩
  rw [mk_eq.mp e k, cf_app, cf_conmul]
theorem mk_nil : mk [] = (0 : Ply) := mk_of (s := []) (t := conT 0) fun k => by
  rw [cf_con]
  split <;> rfl
theorem mono_pow (k : K3) (v : Int) : ∀ n : Nat, npow [(k, v)] n = [(strK n k, v ^ n)]
  | 0 => by
    show one = _
    have : strK ((0 : Nat) : Int) k = (0, 0, 0) := k3_ext (Int.zero_mul _) (Int.zero_mul _) (Int.zero_mul _)
    rw [this, Int.pow_zero]
    rfl
  | n + 1 => by
    show prods (npow [(k, v)] n) [(k, v)] = _
    rw [mono_pow k v n]
    show [(ad (strK n k) k, v ^ n * v)] = _
    have : ad (strK n k) k = strK ((n + 1 : Nat) : Int) k := by
      have h : ∀ x : Int, (n : Int) * x + x = ((n + 1 : Nat) : Int) * x := fun x => by
        rw [show ((n + 1 : Nat) : Int) = (n : Int) + 1 from rfl, Int.add_mul, Int.one_mul]
      exact k3_ext (h _) (h _) (h _)
    rw [this, Int.pow_succ]
theorem frob {p : Nat} (h : Pr p) : ∀ f : Tms, Cg p (npow f p) (strT p f)
  | [] => ⟨0, by
    have hp := h.pos
    rw [mk_pow]
    show mk [] ^ p = mk [] + _
    rw [mk_nil]
    obtain ⟨m, rfl⟩ : ∃ m, p = m + 1 := ⟨p - 1, by omega⟩
    rw [Lean.Grind.Semiring.pow_succ]
    grind⟩
  | q :: f => by
    obtain ⟨c, e⟩ := frob h f
    obtain ⟨d, ed⟩ : ∃ d : Ply, (mk [q] + mk f) ^ p = mk [q] ^ p + mk f ^ p + pc p * d := h.dr Ply (mk [q]) (mk f)
    obtain ⟨w, ew⟩ := fermat h q.2
    rw [mk_pow] at e
    have e1 : mk [q] ^ p = mk [(strK p q.1, q.2)] + pc p * mk [(strK p q.1, w)] := by
      rw [← mk_pow, mono_pow, ew]
      refine mk_of (s := [(strK p q.1, q.2 + p * w)]) (t := [(strK p q.1, q.2)] ++ prods (conT (p : Int)) [(strK p q.1, w)]) fun k => ?_
      rw [cf_app, cf_conmul]
      show (if strK p q.1 = k then q.2 + p * w else 0) + 0 = (if strK p q.1 = k then q.2 else 0) + 0 + p * ((if strK p q.1 = k then w else 0) + 0)
      split
      · rw [Int.add_zero, Int.add_zero, Int.add_zero]
      · simp
    refine ⟨c + d + mk [(strK p q.1, w)], ?_⟩
    rw [mk_pow]
    show (mk ([q] ++ f)) ^ p = mk ([(strK p q.1, q.2)] ++ strT p f) + _
    rw [mk_add, mk_add, ed, e1, e]
    grind
theorem mk_pow_mul (a : Ply) (m : Nat) : ∀ n, a ^ (m * n) = (a ^ m) ^ n
  | 0 => rfl
  | n + 1 => by
    rw [Nat.mul_succ, Lean.Grind.Semiring.pow_succ, ← mk_pow_mul a m n]
    exact Lean.Grind.Semiring.pow_add a (m * n) m
theorem frob_pow {p : Nat} (h : Pr p) (f : Tms) : ∀ j, Cg (p ^ (j + 1)) (npow f (p ^ (j + 1))) (npow (strT p f) (p ^ j))
  | 0 => by
    have := frob h f
    rw [Nat.pow_zero, npow_one, Nat.zero_add, Nat.pow_one]
    exact this
  | j + 1 => by
    obtain ⟨c, e⟩ := frob_pow h f j
    rw [mk_pow, mk_pow] at e
    have cs : pc (p ^ (j + 1)) = pc p * pc (p ^ j) := by
      rw [Nat.pow_succ, Nat.mul_comm]
      exact pc_mul p (p ^ j)
    have cs2 : pc (p ^ (j + 1 + 1)) = pc p * (pc p * pc (p ^ j)) := by
      rw [← cs, Nat.pow_succ, Nat.mul_comm]
      exact pc_mul p (p ^ (j + 1))
    obtain ⟨d, ed⟩ : ∃ d : Ply, (mk (strT p f) ^ p ^ j + pc p * pc (p ^ j) * c) ^ p = (mk (strT p f) ^ p ^ j) ^ p + pc p * (pc p * pc (p ^ j)) * d := h.li Ply (mk (strT p f) ^ p ^ j) (pc (p ^ j)) c
    refine ⟨d, ?_⟩
    rw [mk_pow, mk_pow, cs2, Nat.pow_succ, mk_pow_mul, e, cs, ed, Nat.pow_succ p j, mk_pow_mul]
/-! ### parts -/
def divs (p : Int) (k : K3) : Bool := decide (k.1 % p = 0) && (decide (k.2.1 % p = 0) && decide (k.2.2 % p = 0))
def quoK (p : Int) (k : K3) : K3 := (k.1 / p, k.2.1 / p, k.2.2 / p)
def ptT (p : Int) (t : Tms) : Tms := (t.filter fun q => divs p q.1).map fun q => (quoK p q.1, q.2)
theorem divs_str {p : Int} {k : K3} (h : divs p k = true) : k = strK p (quoK p k) := by
  unfold divs at h
  simp only [Bool.and_eq_true, decide_eq_true_eq] at h
  exact k3_ext (Int.mul_ediv_cancel_of_emod_eq_zero h.1).symm (Int.mul_ediv_cancel_of_emod_eq_zero h.2.1).symm (Int.mul_ediv_cancel_of_emod_eq_zero h.2.2).symm
theorem str_divs (p : Int) (k : K3) : divs p (strK p k) = true := by
  unfold divs strK
  simp
theorem quo_str {p : Int} (hp : p ≠ 0) (k : K3) : quoK p (strK p k) = k := k3_ext (Int.mul_ediv_cancel_left _ hp) (Int.mul_ediv_cancel_left _ hp) (Int.mul_ediv_cancel_left _ hp)
theorem cf_pt {p : Int} (hp : p ≠ 0) (t : Tms) (k : K3) : cf (ptT p t) k = cf t (strK p k) := by
  induction t with
  | nil => rfl
  | cons q t ih =>
    unfold ptT at ih ⊢
    rw [List.filter_cons]
    by_cases h : divs p q.1 = true
    · rw [if_pos h, List.map_cons, cf, cf, ih]
      have e := divs_str h
      by_cases g : quoK p q.1 = k
      · rw [if_pos g, if_pos (by rw [e, g])]
      · rw [if_neg g, if_neg (fun z => g (by rw [z]; exact quo_str hp k))]
    · rw [if_neg h, cf, ih, if_neg (fun z => h (by rw [z]; exact str_divs p k))]
      omega
theorem pt_eqv {p : Int} (hp : p ≠ 0) {s t : Tms} (h : Eqv s t) : Eqv (ptT p s) (ptT p t) := fun k => by rw [cf_pt hp, cf_pt hp, h]
theorem pt_prods {p : Int} (hp : p ≠ 0) (s t : Tms) : Eqv (ptT p (prods (strT p s) t)) (prods s (ptT p t)) := fun k => by
  rw [cf_pt hp]
  induction s with
  | nil => rfl
  | cons q s ih =>
    rw [cf_prods_cons, ← ih, cf_pt hp, strK_sb]
    exact cf_prods_cons (strK p q.1, q.2) (strT p s) t (strK p k)
theorem pt_one (t : Tms) : ptT 1 t = t := by
  unfold ptT
  have e : (t.filter fun q => divs 1 q.1) = t := List.filter_eq_self.mpr fun q _ => by unfold divs; simp
  rw [e]
  conv => rhs; rw [← List.map_id t]
  refine List.map_congr_left fun q _ => ?_
  show (quoK 1 q.1, q.2) = q
  unfold quoK
  rw [Int.ediv_one, Int.ediv_one, Int.ediv_one]
theorem strK_zero (p : Int) : strK p (0, 0, 0) = (0, 0, 0) := k3_ext (Int.mul_zero _) (Int.mul_zero _) (Int.mul_zero _)
/-! ### rests -/
def mdT (m : Int) (t : Tms) : Tms := t.map fun q => (q.1, q.2 % m)
theorem cf_md {m : Int} {t : Tms} (h : (t.map (·.1)).Nodup) (k : K3) : cf (mdT m t) k = cf t k % m := by
  induction t with
  | nil => exact (Int.zero_emod m).symm
  | cons q t ih =>
    rw [List.map_cons, List.nodup_cons] at h
    show (if q.1 = k then q.2 % m else 0) + cf (mdT m t) k = ((if q.1 = k then q.2 else 0) + cf t k) % m
    rw [ih h.2]
    by_cases e : q.1 = k
    · have z : cf t k = 0 := cf_none fun r hr e2 => h.1 (by rw [e, ← e2]; exact List.mem_map_of_mem hr)
      rw [if_pos e, if_pos e, z, Int.zero_emod, Int.add_zero, Int.add_zero]
    · rw [if_neg e, if_neg e, Int.zero_add, Int.zero_add]
theorem cg_md {m : Nat} {s t a b : Tms} (h : Cg m s t) (ha : (a.map (·.1)).Nodup) (hb : (b.map (·.1)).Nodup) (ea : Eqv a s) (eb : Eqv b t) : Eqv (mdT m a) (mdT m b) := fun k => by
  obtain ⟨c, hc⟩ := cg_cf h
  rw [cf_md ha, cf_md hb, ea, eb, hc, Int.add_mul_emod_self_left]
/-! ### the digits -/
theorem cg_pow {m : Nat} {s t : Tms} (h : Cg m s t) : ∀ n, Cg m (npow s n) (npow t n)
  | 0 => ⟨0, by
    show mk one = mk one + _
    grind⟩
  | n + 1 => by
    obtain ⟨c, e⟩ := h
    obtain ⟨d, f⟩ := cg_pow ⟨c, e⟩ n
    refine ⟨c * mk (npow t n) + d * mk t + pc m * c * d, ?_⟩
    show mk (prods (npow s n) s) = mk (prods (npow t n) t) + _
    rw [mk_mul, mk_mul, e, f]
    grind
theorem cg_right {m : Nat} {s t : Tms} (h : Cg m s t) (u : Tms) : Cg m (prods s u) (prods t u) := by
  obtain ⟨c, e⟩ := h
  refine ⟨c * mk u, ?_⟩
  rw [mk_mul, mk_mul, e]
  grind
theorem npow_mul (s : Tms) (a b : Nat) : Eqv (npow s (a * b)) (npow (npow s a) b) := mk_eq.mp (by rw [mk_pow, mk_pow, mk_pow, mk_pow_mul])
/-- the constant of r^(p n + d) times ends, and of r^n times the parts of r^d times ends -/
theorem digit_ok {p m : Nat} {r ends : Tms} (hp : (p : Int) ≠ 0) (h : Cg m (npow r p) (strT p r)) (n d : Nat) :
    (cf (prods (npow r (p * n + d)) ends) (0, 0, 0) - cf (prods (npow r n) (ptT p (prods (npow r d) ends))) (0, 0, 0)) % (m : Int) = 0 := by
  have c1 := cg_right (cg_pow h n) (prods (npow r d) ends)
  obtain ⟨c, hc⟩ := cg_cf c1
  have e1 : cf (prods (npow r (p * n + d)) ends) (0, 0, 0) = cf (prods (npow (npow r p) n) (prods (npow r d) ends)) (0, 0, 0) := by
    refine mk_eq.mp ?_ _
    rw [mk_mul, mk_mul, mk_mul, mk_pow, mk_pow, mk_pow, mk_pow, ← mk_pow_mul]
    have := Lean.Grind.Semiring.pow_add (mk r) (p * n) d
    rw [this]
    exact Lean.Grind.Semiring.mul_assoc _ _ _
  rw [e1, hc]
  have e2 := pt_prods hp (npow r n) (prods (npow r d) ends) (0, 0, 0)
  rw [cf_pt hp, strK_zero, str_npow] at e2
  rw [e2, Int.add_comm, Int.add_sub_cancel]
  exact Int.mul_emod_right _ _
end LTX
set_option maxRecDepth 100000
set_option maxHeartbeats 4000000
/-! boxes of exponents; comprehensions with what each item gives -/
namespace LTX
open PySem PySem.Spec PyProof.Rows L2 DL LamX
theorem lc_pr {α : Type} {vs : List Nat} {g : DG} {f : DD} {Q : List DV → List Cell → Prop} {e : α → DV} (T : α → DV → Prop) {E0 : List Cell} : ∀ (xs : List α) (acc : List DV) (env : List Cell), wipeD env vs = E0 →
    (∀ x ∈ xs, ∀ Q' : DV → List Cell → Prop, (∀ y env', T x y → wipeD env' vs = E0 → Q' y env') → g (e x) E0 fun e2 => f e2 Q') →
    (∀ ys env', Paired T xs ys → wipeD env' vs = E0 → Q (acc ++ ys) env') → goLc vs g dYes f Q (xs.map e) acc env
  | [], acc, env, h0, _, fin => by
    have h := fin [] env .nil h0
    rw [List.append_nil] at h
    exact h
  | x :: xs, acc, env, h0, stp, fin => by
    show g (e x) (wipeD env vs) fun e2 => f e2 fun y e4 => goLc vs g dYes f Q (xs.map e) (acc ++ [y]) e4
    rw [h0]
    refine stp x (List.mem_cons_self ..) _ fun y env' ty h' => lc_pr T xs _ env' h' (fun y hy => stp y (List.mem_cons_of_mem _ hy)) fun ys e2 ht h2 => ?_
    have h := fin (y :: ys) e2 (.cons ty ht) h2
    rw [List.append_cons] at h
    exact h
theorem lc_prI {vs : List Nat} {g : DG} {f : DD} {Q : List DV → List Cell → Prop} (T : DV → DV → Prop) {E0 : List Cell} (xs : List DV) (env : List Cell) (h0 : wipeD env vs = E0)
    (stp : ∀ x ∈ xs, ∀ Q' : DV → List Cell → Prop, (∀ y env', T x y → wipeD env' vs = E0 → Q' y env') → g x E0 fun e2 => f e2 Q')
    (fin : ∀ ys env', Paired T xs ys → wipeD env' vs = E0 → Q ys env') : goLc vs g dYes f Q xs [] env := by
  have := lc_pr (e := id) (Q := Q) T xs [] env h0 stp (fun ys e h1 h2 => by rw [List.nil_append]; exact fin ys e h1 h2)
  rw [List.map_id] at this
  exact this
def Bx (l R : Nat) (k : K3) : Prop := ((-(R : Int) ≤ k.1 ∧ k.1 ≤ R) ∧ (-(R : Int) ≤ k.2.1 ∧ k.2.1 ≤ R) ∧ (-(R : Int) ≤ k.2.2 ∧ k.2.2 ≤ R)) ∧ (l ≤ 1 → k.2.1 = 0) ∧ (l ≤ 2 → k.2.2 = 0)
/-- exponents of the first letter to E, of the second to F, none of the third -/
def Box (E F : Nat) (s : Tms) : Prop := ∀ p ∈ s, (-(E : Int) ≤ p.1.1 ∧ p.1.1 ≤ E) ∧ (-(F : Int) ≤ p.1.2.1 ∧ p.1.2.1 ≤ F) ∧ p.1.2.2 = 0
theorem prods_mem {a b : Tms} {p : K3 × Int} (h : p ∈ prods a b) : ∃ q ∈ a, ∃ r ∈ b, p.1 = ad q.1 r.1 := by
  induction a with
  | nil => cases h
  | cons q a ih =>
    rcases List.mem_append.mp h with h | h
    · obtain ⟨r, hr, e⟩ := List.mem_map.mp h
      exact ⟨q, List.mem_cons_self, r, hr, by rw [← e]⟩
    · obtain ⟨q', hq, r, hr, e⟩ := ih h
      exact ⟨q', List.mem_cons_of_mem _ hq, r, hr, e⟩
theorem box_npow {E F : Nat} {s : Tms} (h : Box E F s) : ∀ n, Box (E * n) (F * n) (npow s n)
  | 0 => fun p hp => by
    cases List.mem_singleton.mp hp
    exact ⟨by show -((E * 0 : Nat) : Int) ≤ 0 ∧ (0 : Int) ≤ _; omega, by show -((F * 0 : Nat) : Int) ≤ 0 ∧ (0 : Int) ≤ _; omega, rfl⟩
  | n + 1 => fun p hp => by
    obtain ⟨q, hq, r, hr, e⟩ := prods_mem hp
    obtain ⟨⟨a1, a2⟩, ⟨a3, a4⟩, a5⟩ := box_npow h n q hq
    obtain ⟨⟨b1, b2⟩, ⟨b3, b4⟩, b5⟩ := h r hr
    rw [e, Nat.mul_succ, Nat.mul_succ]
    refine ⟨?_, ?_, ?_⟩
    · show -((E * n + E : Nat) : Int) ≤ q.1.1 + r.1.1 ∧ q.1.1 + r.1.1 ≤ _; omega
    · show -((F * n + F : Nat) : Int) ≤ q.1.2.1 + r.1.2.1 ∧ q.1.2.1 + r.1.2.1 ≤ _; omega
    · show q.1.2.2 + r.1.2.2 = 0; omega
def axis (E : Nat) (f : Int → K3) : Tms := (List.range (2 * E + 1)).map fun i : Nat => (f ((i : Int) - E), 1)
theorem axis_mem {E : Nat} {f : Int → K3} {x : Int} (h1 : -(E : Int) ≤ x) (h2 : x ≤ E) : (f x, (1 : Int)) ∈ axis E f := by
  refine List.mem_map.mpr ⟨(x + E).toNat, List.mem_range.mpr (by omega), ?_⟩
  rw [show ((x + E).toNat : Int) - E = x by omega]
theorem in_prods {a b : Tms} {p q : K3 × Int} (hp : p ∈ a) (hq : q ∈ b) : (ad p.1 q.1, p.2 * q.2) ∈ prods a b := by
  induction a with
  | nil => cases hp
  | cons x a ih =>
    rcases List.mem_cons.mp hp with rfl | hp
    · exact List.mem_append_left _ (List.mem_map.mpr ⟨q, hq, rfl⟩)
    · exact List.mem_append_right _ (ih hp)
theorem box_count {E F : Nat} {s : Tms} (h : Box E F s) {ks : List K3} (hn : ks.Nodup) (hk : ∀ k ∈ ks, k ∈ s.map (·.1)) : ks.length ≤ (2 * E + 1) * (2 * F + 1) := by
  have := nodup_len (us := (prods (axis E fun x => (x, 0, 0)) (axis F fun y => (0, y, 0))).map (·.1)) hn fun k hm => by
    obtain ⟨p, hp, rfl⟩ := List.mem_map.mp (hk k hm)
    obtain ⟨⟨a1, a2⟩, ⟨a3, a4⟩, a5⟩ := h p hp
    refine List.mem_map.mpr ⟨_, in_prods (axis_mem (f := fun x => (x, 0, 0)) a1 a2) (axis_mem (f := fun y => (0, y, 0)) a3 a4), ?_⟩
    exact k3_ext (Int.add_zero _) (Int.zero_add _) (by rw [a5]; rfl)
  rw [List.length_map, len_prods] at this
  unfold axis at this
  rw [List.length_map, List.length_map, List.length_range, List.length_range] at this
  exact this
theorem box_len {E F a : Nat} {s r : Tms} (h : Box E F s) (c : Can r) (e : Eqv r (npow s a)) : r.length ≤ (2 * (E * a) + 1) * (2 * (F * a) + 1) := by
  have := box_count (box_npow h a) (can_nodup c) (can_keys c e)
  rw [List.length_map] at this
  exact this
theorem box_eqv {E F : Nat} {s r : Tms} (h : Box E F s) (c : Can r) (e : Eqv r s) : Box E F r := fun p hp => by
  obtain ⟨q, hq, e2⟩ := List.mem_map.mp (can_keys c e p.1 (List.mem_map_of_mem hp))
  rw [← e2]
  exact h q hq
theorem box_grw {E F N : Nat} {s : Tms} (h : Box E F s) (hs : (2 * (E * N) + 1) * (2 * (F * N) + 1) ≤ 2000) : Grw s N := by
  refine ⟨fun a => (2 * (E * a) + 1) * (2 * (F * a) + 1), fun a _ ks h1 h2 => box_count (box_npow h a) h1 h2, fun a b hab => ?_⟩
  have le : ∀ a, a ≤ N → (2 * (E * a) + 1) * (2 * (F * a) + 1) ≤ 2000 := fun a ha => by
    have h1 : E * a ≤ E * N := Nat.mul_le_mul_left _ ha
    have h2 : F * a ≤ F * N := Nat.mul_le_mul_left _ ha
    exact Nat.le_trans (Nat.mul_le_mul (by omega) (by omega)) hs
  exact Nat.lt_of_le_of_lt (Nat.mul_le_mul (le a (by omega)) (le b (by omega))) (by decide)
theorem nrm_eqv {r t : Tms} (c : Can r) (e : Eqv r t) : nrm r ≤ r.length * nrm t := by
  have : ∀ {u : Tms} {c : Nat}, (∀ p ∈ u, p.2.natAbs ≤ c) → nrm u ≤ u.length * c := by
    intro u c
    induction u with
    | nil => intro _; exact Nat.zero_le _
    | cons p u ih =>
      intro h
      rw [nrm, List.length_cons, Nat.add_mul]
      have h1 := h p List.mem_cons_self
      have h2 := ih fun q hq => h q (List.mem_cons_of_mem _ hq)
      omega
  refine this fun p hp => ?_
  have h := cf_mem (can_nodup c) hp
  rw [← h, e]
  exact cf_le t p.1
theorem len_eqv {r t : Tms} (c : Can r) (e : Eqv r t) : r.length ≤ t.length := by
  have := nodup_len (can_nodup c) (can_keys c e)
  rw [List.length_map, List.length_map] at this
  exact this
end LTX
set_option maxRecDepth 100000
set_option maxHeartbeats 4000000
namespace K13
open PySem PySem.Spec PyProof.Rows L2 DL LamX LTX
theorem sc_BadNumber_init : FnScope ["self", "what", "number"] ["self", "what", "number"] (defScope s_BadNumber_init) := ⟨rfl, rfl, rfl, by decide +kernel, rfl, by decide +kernel, by decide +kernel⟩
theorem sc_BadRow_init : FnScope ["self", "row"] ["self", "row"] (defScope s_BadRow_init) := ⟨rfl, rfl, rfl, by decide +kernel, rfl, by decide +kernel, by decide +kernel⟩
theorem sc_TooLarge_init : FnScope ["self", "what", "number", "limit"] ["self", "what", "number", "limit"] (defScope s_TooLarge_init) := ⟨rfl, rfl, rfl, by decide +kernel, rfl, by decide +kernel, by decide +kernel⟩
theorem sc_is_number : FnScope ["thing"] ["thing"] (defScope s_is_number) := ⟨rfl, rfl, rfl, by decide +kernel, rfl, by decide +kernel, by decide +kernel⟩
theorem sc_are_exponents : FnScope ["thing", "one"] ["thing"] (defScope s_are_exponents) := ⟨rfl, rfl, rfl, by decide +kernel, rfl, by decide +kernel, by decide +kernel⟩
theorem sc_need_exponents : FnScope ["value"] ["value"] (defScope s_need_exponents) := ⟨rfl, rfl, rfl, by decide +kernel, rfl, by decide +kernel, by decide +kernel⟩
theorem sc_need_from : FnScope ["what", "value", "least"] ["what", "value", "least"] (defScope s_need_from) := ⟨rfl, rfl, rfl, by decide +kernel, rfl, by decide +kernel, by decide +kernel⟩
theorem sc_terms_of : FnScope ["thing"] ["thing"] (defScope s_terms_of) := ⟨rfl, rfl, rfl, by decide +kernel, rfl, by decide +kernel, by decide +kernel⟩
theorem sc_products : FnScope ["one", "other", "i", "j", "h", "left", "a", "b", "c", "right"] ["one", "other"] (defScope s_products) := ⟨rfl, rfl, rfl, by decide +kernel, rfl, by decide +kernel, by decide +kernel⟩
theorem sc_Powers_init : FnScope ["self", "terms", "found", "item", "exponents", "order", "sizes", "k", "amount", "some"] ["self", "terms"] (defScope s_Powers_init) := ⟨rfl, rfl, rfl, by decide +kernel, rfl, by decide +kernel, by decide +kernel⟩
theorem sc_Powers_mul : FnScope ["self", "other", "terms"] ["self", "other"] (defScope s_Powers_mul) := ⟨rfl, rfl, rfl, by decide +kernel, rfl, by decide +kernel, by decide +kernel⟩
theorem sc_Powers_eq : FnScope ["self", "other"] ["self", "other"] (defScope s_Powers_eq) := ⟨rfl, rfl, rfl, by decide +kernel, rfl, by decide +kernel, by decide +kernel⟩
theorem sc_Powers_raised : FnScope ["self", "n", "found", "square"] ["self", "n"] (defScope s_Powers_raised) := ⟨rfl, rfl, rfl, by decide +kernel, rfl, by decide +kernel, by decide +kernel⟩
theorem sc_Powers_part_at : FnScope ["self", "exponents", "found", "place", "number"] ["self", "exponents"] (defScope s_Powers_part_at) := ⟨rfl, rfl, rfl, by decide +kernel, rfl, by decide +kernel, by decide +kernel⟩
theorem sc_Powers_constant : FnScope ["self"] ["self"] (defScope s_Powers_constant) := ⟨rfl, rfl, rfl, by decide +kernel, rfl, by decide +kernel, by decide +kernel⟩
theorem sc_Powers_parts : FnScope ["self", "p", "kept", "term", "exponent", "exponents", "number"] ["self", "p"] (defScope s_Powers_parts) := ⟨rfl, rfl, rfl, by decide +kernel, rfl, by decide +kernel, by decide +kernel⟩
theorem sc_Powers_modulo : FnScope ["self", "m", "exponents", "number"] ["self", "m"] (defScope s_Powers_modulo) := ⟨rfl, rfl, rfl, by decide +kernel, rfl, by decide +kernel, by decide +kernel⟩
theorem sc_law_pen : FnScope ["_law_script", "_law_fold", "_law_cell"] ["_law_script"] (defScope s_law_pen) := ⟨rfl, rfl, rfl, by decide +kernel, rfl, by decide +kernel, by decide +kernel⟩
theorem sc_law_draw : FnScope ["_law_pen_here", "_law_many", "_law_cell", "_law_digit", "_law_mixed"] ["_law_pen_here", "_law_many"] (defScope s_law_draw) := ⟨rfl, rfl, rfl, by decide +kernel, rfl, by decide +kernel, by decide +kernel⟩
theorem sc_law_pick : FnScope ["_law_pen_here", "_law_some"] ["_law_pen_here", "_law_some"] (defScope s_law_pick) := ⟨rfl, rfl, rfl, by decide +kernel, rfl, by decide +kernel, by decide +kernel⟩
theorem sc_law_power : FnScope ["_law_m", "_law_known"] ["_law_m"] (defScope s_law_power) := ⟨rfl, rfl, rfl, by decide +kernel, rfl, by decide +kernel, by decide +kernel⟩
theorem sc_law_poly : FnScope ["_law_pen_here", "_law_letters", "_law_reach", "_law_many", "_law_found", "_law_k", "_law_place", "_law_at", "_law_number"] ["_law_pen_here", "_law_letters", "_law_reach", "_law_many"] (defScope s_law_poly) := ⟨rfl, rfl, rfl, by decide +kernel, rfl, by decide +kernel, by decide +kernel⟩
theorem sc_law_shuffled : FnScope ["_law_pen_here", "_law_some", "_law_left", "_law_out", "_law_k"] ["_law_pen_here", "_law_some"] (defScope s_law_shuffled) := ⟨rfl, rfl, rfl, by decide +kernel, rfl, by decide +kernel, by decide +kernel⟩
theorem sc_law_made : FnScope ["_law_pen_here", "_law_poly_here", "_law_rows", "_law_place", "_law_part", "_law_number", "_law_row"] ["_law_pen_here", "_law_poly_here"] (defScope s_law_made) := ⟨rfl, rfl, rfl, by decide +kernel, rfl, by decide +kernel, by decide +kernel⟩
theorem sc_law_wide : FnScope ["_law_poly_here", "_law_p", "_law_at"] ["_law_poly_here", "_law_p"] (defScope s_law_wide) := ⟨rfl, rfl, rfl, by decide +kernel, rfl, by decide +kernel, by decide +kernel⟩
theorem sc_law : FnScope ["_law_script", "_law_pen_here", "_law_m", "_law_p", "_law_k", "_law_one", "_law_two", "_law_w", "_law_v", "_law_letters", "_law_steps", "_law_r", "_law_wide_here", "_law_at", "_law_number", "_law_ends", "_law_n", "_law_digit", "_law_whole", "_law_part"] ["_law_script"] (defScope s_law) := ⟨rfl, rfl, rfl, by decide +kernel, rfl, by decide +kernel, by decide +kernel⟩
structure Adr where
  rel : Rel
  c_CountError : Addr
  c_BadNumber : Addr
  c_BadRow : Addr
  c_Powers : Addr
  c_TooLarge : Addr
  a_ORIGIN : Addr
  f_BadNumber_init : Addr
  fd_BadNumber_init : FuncData
  f_BadRow_init : Addr
  fd_BadRow_init : FuncData
  f_TooLarge_init : Addr
  fd_TooLarge_init : FuncData
  f_is_number : Addr
  fd_is_number : FuncData
  f_are_exponents : Addr
  fd_are_exponents : FuncData
  f_need_exponents : Addr
  fd_need_exponents : FuncData
  f_need_from : Addr
  fd_need_from : FuncData
  f_terms_of : Addr
  fd_terms_of : FuncData
  f_products : Addr
  fd_products : FuncData
  f_Powers_init : Addr
  fd_Powers_init : FuncData
  f_Powers_mul : Addr
  fd_Powers_mul : FuncData
  f_Powers_eq : Addr
  fd_Powers_eq : FuncData
  f_Powers_raised : Addr
  fd_Powers_raised : FuncData
  f_Powers_part_at : Addr
  fd_Powers_part_at : FuncData
  f_Powers_constant : Addr
  fd_Powers_constant : FuncData
  f_Powers_parts : Addr
  fd_Powers_parts : FuncData
  f_Powers_modulo : Addr
  fd_Powers_modulo : FuncData
  f_law_pen : Addr
  fd_law_pen : FuncData
  f_law_draw : Addr
  fd_law_draw : FuncData
  f_law_pick : Addr
  fd_law_pick : FuncData
  f_law_power : Addr
  fd_law_power : FuncData
  f_law_poly : Addr
  fd_law_poly : FuncData
  f_law_shuffled : Addr
  fd_law_shuffled : FuncData
  f_law_made : Addr
  fd_law_made : FuncData
  f_law_wide : Addr
  fd_law_wide : FuncData
  f_law : Addr
  fd_law : FuncData
structure Txt (K : PySem.W.Frag) (mg : Str → Option Value) (A : Adr) : Prop where
  rel : RelOk K A.rel
  ini : Ini mg K A.c_CountError
  nc_Powers : nclB K A.c_Powers = true ∧ IsiC K A.c_Powers
  nb_Powers : numB K A.c_Powers = true
  mg_BadNumber : mg "BadNumber" = some (.ref A.c_BadNumber)
  mg_BadRow : mg "BadRow" = some (.ref A.c_BadRow)
  mg_Powers : mg "Powers" = some (.ref A.c_Powers)
  mg_TooLarge : mg "TooLarge" = some (.ref A.c_TooLarge)
  mg_MOST : ∃ t, mg "MOST" = some (.int 200 t)
  mg_ORIGIN : mg "ORIGIN" = some (.ref A.a_ORIGIN)
  h_ORIGIN : ∀ F, Hold K F (.ref A.a_ORIGIN) d_ORIGIN
  no_abs : mg "abs" = none
  no_all : mg "all" = none
  no_bool : mg "bool" = none
  no_dict : mg "dict" = none
  no_int : mg "int" = none
  no_isinstance : mg "isinstance" = none
  no_len : mg "len" = none
  no_list : mg "list" = none
  no_max : mg "max" = none
  no_range : mg "range" = none
  no_sorted : mg "sorted" = none
  no_tuple : mg "tuple" = none
  F_BadNumber_init : Fun K "__init__" "BadNumber.__init__" s_BadNumber_init A.f_BadNumber_init A.fd_BadNumber_init
  F_BadRow_init : Fun K "__init__" "BadRow.__init__" s_BadRow_init A.f_BadRow_init A.fd_BadRow_init
  F_TooLarge_init : Fun K "__init__" "TooLarge.__init__" s_TooLarge_init A.f_TooLarge_init A.fd_TooLarge_init
  mg_is_number : mg "is_number" = some (.ref A.f_is_number)
  F_is_number : Fun K "is_number" "is_number" s_is_number A.f_is_number A.fd_is_number
  mg_are_exponents : mg "are_exponents" = some (.ref A.f_are_exponents)
  F_are_exponents : Fun K "are_exponents" "are_exponents" s_are_exponents A.f_are_exponents A.fd_are_exponents
  mg_need_exponents : mg "need_exponents" = some (.ref A.f_need_exponents)
  F_need_exponents : Fun K "need_exponents" "need_exponents" s_need_exponents A.f_need_exponents A.fd_need_exponents
  mg_need_from : mg "need_from" = some (.ref A.f_need_from)
  F_need_from : Fun K "need_from" "need_from" s_need_from A.f_need_from A.fd_need_from
  mg_terms_of : mg "terms_of" = some (.ref A.f_terms_of)
  F_terms_of : Fun K "terms_of" "terms_of" s_terms_of A.f_terms_of A.fd_terms_of
  mg_products : mg "products" = some (.ref A.f_products)
  F_products : Fun K "products" "products" s_products A.f_products A.fd_products
  F_Powers_init : Fun K "__init__" "Powers.__init__" s_Powers_init A.f_Powers_init A.fd_Powers_init
  F_Powers_mul : Fun K "__mul__" "Powers.__mul__" s_Powers_mul A.f_Powers_mul A.fd_Powers_mul
  F_Powers_eq : Fun K "__eq__" "Powers.__eq__" s_Powers_eq A.f_Powers_eq A.fd_Powers_eq
  F_Powers_raised : Fun K "raised" "Powers.raised" s_Powers_raised A.f_Powers_raised A.fd_Powers_raised
  F_Powers_part_at : Fun K "part_at" "Powers.part_at" s_Powers_part_at A.f_Powers_part_at A.fd_Powers_part_at
  F_Powers_constant : Fun K "constant" "Powers.constant" s_Powers_constant A.f_Powers_constant A.fd_Powers_constant
  F_Powers_parts : Fun K "parts" "Powers.parts" s_Powers_parts A.f_Powers_parts A.fd_Powers_parts
  F_Powers_modulo : Fun K "modulo" "Powers.modulo" s_Powers_modulo A.f_Powers_modulo A.fd_Powers_modulo
  mg_law_pen : mg "_law_pen" = some (.ref A.f_law_pen)
  F_law_pen : Fun K "_law_pen" "_law_pen" s_law_pen A.f_law_pen A.fd_law_pen
  mg_law_draw : mg "_law_draw" = some (.ref A.f_law_draw)
  F_law_draw : Fun K "_law_draw" "_law_draw" s_law_draw A.f_law_draw A.fd_law_draw
  mg_law_pick : mg "_law_pick" = some (.ref A.f_law_pick)
  F_law_pick : Fun K "_law_pick" "_law_pick" s_law_pick A.f_law_pick A.fd_law_pick
  mg_law_power : mg "_law_power" = some (.ref A.f_law_power)
  F_law_power : Fun K "_law_power" "_law_power" s_law_power A.f_law_power A.fd_law_power
  mg_law_poly : mg "_law_poly" = some (.ref A.f_law_poly)
  F_law_poly : Fun K "_law_poly" "_law_poly" s_law_poly A.f_law_poly A.fd_law_poly
  mg_law_shuffled : mg "_law_shuffled" = some (.ref A.f_law_shuffled)
  F_law_shuffled : Fun K "_law_shuffled" "_law_shuffled" s_law_shuffled A.f_law_shuffled A.fd_law_shuffled
  mg_law_made : mg "_law_made" = some (.ref A.f_law_made)
  F_law_made : Fun K "_law_made" "_law_made" s_law_made A.f_law_made A.fd_law_made
  mg_law_wide : mg "_law_wide" = some (.ref A.f_law_wide)
  F_law_wide : Fun K "_law_wide" "_law_wide" s_law_wide A.f_law_wide A.fd_law_wide
  mg_law : mg "law" = some (.ref A.f_law)
  F_law : Fun K "law" "law" s_law A.f_law A.fd_law
  cl_Powers : Cls K A.c_Powers
  na_Powers_reach : NoAttr K A.c_Powers "reach"
  na_Powers_terms : NoAttr K A.c_Powers "terms"
  me_Powers___eq__ : Meth K A.c_Powers "__eq__" A.f_Powers_eq
  me_Powers___mul__ : Meth K A.c_Powers "__mul__" A.f_Powers_mul
  me_Powers_constant : Meth K A.c_Powers "constant" A.f_Powers_constant
  me_Powers_modulo : Meth K A.c_Powers "modulo" A.f_Powers_modulo
  me_Powers_part_at : Meth K A.c_Powers "part_at" A.f_Powers_part_at
  me_Powers_parts : Meth K A.c_Powers "parts" A.f_Powers_parts
  me_Powers_raised : Meth K A.c_Powers "raised" A.f_Powers_raised
  mk_Powers : Mk K A.c_Powers A.f_Powers_init
  er_BadNumber : ErrC K A.c_BadNumber A.f_BadNumber_init ["what", "number"]
  er_BadRow : ErrC K A.c_BadRow A.f_BadRow_init ["row"]
  er_TooLarge : ErrC K A.c_TooLarge A.f_TooLarge_init ["what", "number", "limit"]
section
variable {P : Program} {w : World} {K : PySem.W.Frag} {mg : Str → Option Value} {base : Heap} {A : Adr}
theorem pdGlobI {X : Cx} {Z : ZX} {x : Str} {i : Int} {pos : Pos} (hg : Gl X x) (hm : ∃ t, X.mg x = some (.int i t)) (hd : (x == ("__debug__" : Str)) = false := by decide) : PEd X Z (.Name x pos) 0 (dC (.int i)) := by
  obtain ⟨t, e⟩ := hm
  exact pdGlob (v := .int i) hg e ⟨t, rfl⟩ (fun F => .int _) hd
theorem b_BadNumber_init (T : Txt K mg A) : Binds K A.fd_BadNumber_init ["self", "what", "number"] [] := T.F_BadNumber_init.binds fun _ _ _ _ _ _ us hl => match us, hl with | [_, _, _], _ => rfl
theorem b_BadRow_init (T : Txt K mg A) : Binds K A.fd_BadRow_init ["self", "row"] [] := T.F_BadRow_init.binds fun _ _ _ _ _ _ us hl => match us, hl with | [_, _], _ => rfl
theorem b_TooLarge_init (T : Txt K mg A) : Binds K A.fd_TooLarge_init ["self", "what", "number", "limit"] [] := T.F_TooLarge_init.binds fun _ _ _ _ _ _ us hl => match us, hl with | [_, _, _, _], _ => rfl
theorem b_is_number (T : Txt K mg A) : Binds K A.fd_is_number ["thing"] [] := T.F_is_number.binds fun _ _ _ _ _ _ us hl => match us, hl with | [_], _ => rfl
theorem b_are_exponents (T : Txt K mg A) : Binds K A.fd_are_exponents ["thing"] [] := T.F_are_exponents.binds fun _ _ _ _ _ _ us hl => match us, hl with | [_], _ => rfl
theorem b_need_exponents (T : Txt K mg A) : Binds K A.fd_need_exponents ["value"] [] := T.F_need_exponents.binds fun _ _ _ _ _ _ us hl => match us, hl with | [_], _ => rfl
theorem b_need_from (T : Txt K mg A) : Binds K A.fd_need_from ["what", "value", "least"] [] := T.F_need_from.binds fun _ _ _ _ _ _ us hl => match us, hl with | [_, _, _], _ => rfl
theorem b_terms_of (T : Txt K mg A) : Binds K A.fd_terms_of ["thing"] [] := T.F_terms_of.binds fun _ _ _ _ _ _ us hl => match us, hl with | [_], _ => rfl
theorem b_products (T : Txt K mg A) : Binds K A.fd_products ["one", "other"] [] := T.F_products.binds fun _ _ _ _ _ _ us hl => match us, hl with | [_, _], _ => rfl
theorem b_Powers_init (T : Txt K mg A) : Binds K A.fd_Powers_init ["self", "terms"] [] := T.F_Powers_init.binds fun _ _ _ _ _ _ us hl => match us, hl with | [_, _], _ => rfl
theorem b_Powers_mul (T : Txt K mg A) : Binds K A.fd_Powers_mul ["self", "other"] [] := T.F_Powers_mul.binds fun _ _ _ _ _ _ us hl => match us, hl with | [_, _], _ => rfl
theorem b_Powers_eq (T : Txt K mg A) : Binds K A.fd_Powers_eq ["self", "other"] [] := T.F_Powers_eq.binds fun _ _ _ _ _ _ us hl => match us, hl with | [_, _], _ => rfl
theorem b_Powers_raised (T : Txt K mg A) : Binds K A.fd_Powers_raised ["self", "n"] [] := T.F_Powers_raised.binds fun _ _ _ _ _ _ us hl => match us, hl with | [_, _], _ => rfl
theorem b_Powers_part_at (T : Txt K mg A) : Binds K A.fd_Powers_part_at ["self", "exponents"] [] := T.F_Powers_part_at.binds fun _ _ _ _ _ _ us hl => match us, hl with | [_, _], _ => rfl
theorem b_Powers_constant (T : Txt K mg A) : Binds K A.fd_Powers_constant ["self"] [] := T.F_Powers_constant.binds fun _ _ _ _ _ _ us hl => match us, hl with | [_], _ => rfl
theorem b_Powers_parts (T : Txt K mg A) : Binds K A.fd_Powers_parts ["self", "p"] [] := T.F_Powers_parts.binds fun _ _ _ _ _ _ us hl => match us, hl with | [_, _], _ => rfl
theorem b_Powers_modulo (T : Txt K mg A) : Binds K A.fd_Powers_modulo ["self", "m"] [] := T.F_Powers_modulo.binds fun _ _ _ _ _ _ us hl => match us, hl with | [_, _], _ => rfl
theorem b_law_pen (T : Txt K mg A) : Binds K A.fd_law_pen ["_law_script"] [] := T.F_law_pen.binds fun _ _ _ _ _ _ us hl => match us, hl with | [_], _ => rfl
theorem b_law_draw (T : Txt K mg A) : Binds K A.fd_law_draw ["_law_pen_here", "_law_many"] [] := T.F_law_draw.binds fun _ _ _ _ _ _ us hl => match us, hl with | [_, _], _ => rfl
theorem b_law_pick (T : Txt K mg A) : Binds K A.fd_law_pick ["_law_pen_here", "_law_some"] [] := T.F_law_pick.binds fun _ _ _ _ _ _ us hl => match us, hl with | [_, _], _ => rfl
theorem b_law_power (T : Txt K mg A) : Binds K A.fd_law_power ["_law_m"] [] := T.F_law_power.binds fun _ _ _ _ _ _ us hl => match us, hl with | [_], _ => rfl
theorem b_law_poly (T : Txt K mg A) : Binds K A.fd_law_poly ["_law_pen_here", "_law_letters", "_law_reach", "_law_many"] [] := T.F_law_poly.binds fun _ _ _ _ _ _ us hl => match us, hl with | [_, _, _, _], _ => rfl
theorem b_law_shuffled (T : Txt K mg A) : Binds K A.fd_law_shuffled ["_law_pen_here", "_law_some"] [] := T.F_law_shuffled.binds fun _ _ _ _ _ _ us hl => match us, hl with | [_, _], _ => rfl
theorem b_law_made (T : Txt K mg A) : Binds K A.fd_law_made ["_law_pen_here", "_law_poly_here"] [] := T.F_law_made.binds fun _ _ _ _ _ _ us hl => match us, hl with | [_, _], _ => rfl
theorem b_law_wide (T : Txt K mg A) : Binds K A.fd_law_wide ["_law_poly_here", "_law_p"] [] := T.F_law_wide.binds fun _ _ _ _ _ _ us hl => match us, hl with | [_, _], _ => rfl
theorem b_law (T : Txt K mg A) : Binds K A.fd_law ["_law_script"] [] := T.F_law.binds fun _ _ _ _ _ _ us hl => match us, hl with | [_], _ => rfl
theorem eok_BadNumber (T : Txt K mg A) : FnOk P w K mg base (L2.CX P w) 1 A.f_BadNumber_init A.fd_BadNumber_init ["self", "what", "number"] (SpErr K A.c_BadNumber 2 fun ws => ((["what", "number"] : List Str).zip ws).reverse) := err2 T.F_BadNumber_init sc_BadNumber_init T.er_BadNumber T.ini rfl (fun env => ⟨_, rfl⟩) (fun env => rfl) (by decide +kernel) rfl
theorem eok_BadRow (T : Txt K mg A) : FnOk P w K mg base (L2.CX P w) 1 A.f_BadRow_init A.fd_BadRow_init ["self", "row"] (SpErr K A.c_BadRow 1 fun ws => ((["row"] : List Str).zip ws).reverse) := err1 T.F_BadRow_init sc_BadRow_init T.er_BadRow T.ini rfl (fun env => ⟨_, rfl⟩) (fun env => rfl) (by decide +kernel) rfl
theorem eok_TooLarge (T : Txt K mg A) : FnOk P w K mg base (L2.CX P w) 1 A.f_TooLarge_init A.fd_TooLarge_init ["self", "what", "number", "limit"] (SpErr K A.c_TooLarge 3 fun ws => ((["what", "number", "limit"] : List Str).zip ws).reverse) := err3 T.F_TooLarge_init sc_TooLarge_init T.er_TooLarge T.ini rfl (fun env => ⟨_, rfl⟩) (fun env => rfl) (by decide +kernel) rfl
end
end K13
set_option maxRecDepth 100000
set_option maxHeartbeats 4000000
namespace K13
open PySem PySem.Spec PyProof.Rows L2 DL LamX LTX
section
variable {P : Program} {w : World} {K : PySem.W.Frag} {mg : Str → Option Value} {base : Heap} {A : Adr}
/-! ### is_number -/
def wd_is_number (A : Adr) (G : Addr → List (Str × DV) → List Cell → Prop) : WS := (wSeq (wRet (dCel (dAndV (dOp2d (gIsiI A.rel [A.c_Powers]) (dVar 0) (dC (.ty "int"))) (dNotV (dOp2d (gIsi A.rel) (dVar 0) (dC (.ty "bool"))))))) wNil)
def isInt? : DV → Option Bool
  | .int _ => some true
  | .bl _ => some false
  | .non => some false
  | .str _ => some false
  | .tup _ => some false
  | .ktup _ => some false
  | .lst _ => some false
  | .dk _ => some false
  | _ => none
def f_is_number (A : Adr) : List DV → Option Out
  | [.ins C _] => if C = A.c_Powers then some (.ret (.bl false)) else none
  | [x] => (isInt? x).map fun b => .ret (.bl b)
  | _ => none
def con_is_number (A : Adr) : Con := conF 1 (f_is_number A)
theorem mono_is_number : ConMono (con_is_number A) := mono_conF
theorem dat_is_number : ∀ cs P Y, con_is_number A cs P Y → runD 1 (wd_is_number A fun C fs e => Y C fs (borsAt e (ownIx 0 cs))) cs P := by
  intro cs P Y h
  obtain ⟨xs, r, rfl, hl, hf, hr⟩ := conF_inv h
  obtain ⟨x, rfl⟩ : ∃ x, xs = [x] := one_of hl
  unfold wd_is_number
  cases x
  case ins C fs =>
    have hf : (if C = A.c_Powers then some (Out.ret (.bl false)) else none) = some r := hf
    by_cases hc : C = A.c_Powers
    · rw [if_pos hc] at hf
      cases hf
      refine ⟨⟨List.mem_singleton.mpr hc, rfl⟩, ?_⟩
      exact hr
    · rw [if_neg hc] at hf
      cases hf
  all_goals (cases hf <;> exact hr)
theorem ok_is_number (T : Txt K mg A) {TB : List (Addr × Str)} : FnOk P w K mg base (L2.CX P w) 1 A.f_is_number A.fd_is_number ["thing"] (SpD K TB 0 (con_is_number A)) :=
  okD (c := _) (wd := wd_is_number A) T.F_is_number sc_is_number (conF_len) (by exact Nat.le_of_ble_eq_true rfl) (fun cdv A1 outer s H E G M hM hr => (psCons (psRet (PEd.cel (pdAnd (pdIsiI T.rel (isiN1 T.nc_Powers.2 (numB_ok T.nb_Powers)) (by rfl) T.no_isinstance (pdVar 0) (pdBltn (by rfl) T.no_int (by rfl))) (pdOne (pdNot (pdIsi T.rel (by rfl) T.no_isinstance (pdVar 0) (pdBltn (by rfl) T.no_bool (by rfl)))))))) psNil)) dat_is_number
end
end K13
set_option maxRecDepth 100000
set_option maxHeartbeats 4000000
namespace K13
open PySem PySem.Spec PyProof.Rows L2 DL LamX LTX
section
variable {P : Program} {w : World} {K : PySem.W.Frag} {mg : Str → Option Value} {base : Heap} {A : Adr}
/-! ### are_exponents -/
def wd_are_exponents (A : Adr) (G : Addr → List (Str × DV) → List Cell → Prop) : WS := (wSeq (wRet (dCel (dAndV (dOp2d (gIsi A.rel) (dVar 0) (dTup (aCons (dC (.ty "tuple")) (aCons (dC (.ty "list")) aNil)))) (dAndV (dBl (tEq (dDat (dOp1 gLen (dPeek 0))) (dC (.int 3)))) (dDat (dOp1 (gBls fun bs => bs.all id) (dVw (dLc [1] (iData (dVar 0)) (gN 1) dYes (dDat (dCall (con_is_number A) (fun _ _ _ => False) (bCons (dVar 1) bNil))))))))))) wNil)
def conAE (A : Adr) : Con := fun cs P _ => ∃ x k, (cs = [.d x] ∧ ExpD x k) ∧ P (.d (.bl true)) []
theorem mono_conAE {A : Adr} : ConMono (conAE A) := fun cs P P2 Y Y2 hP hY ⟨x, k, h, q⟩ => ⟨x, k, h, hP _ _ q⟩
def con_are_exponents (A : Adr) : Con := conAE A
theorem mono_are_exponents : ConMono (con_are_exponents A) := mono_conAE
theorem isi_t {rel : Rel} {xs : List DV} : isiD rel (.tup xs) (.tup [.ty "tuple", .ty "list"]) = some true := by
  show anyTy "tuple" [.ty "tuple", .ty "list"] = some true
  decide +kernel
theorem isi_k {rel : Rel} {xs : List DV} : isiD rel (.ktup xs) (.tup [.ty "tuple", .ty "list"]) = some true := by
  show anyTy "tuple" [.ty "tuple", .ty "list"] = some true
  decide +kernel
theorem isi_l {rel : Rel} {xs : List DV} : isiD rel (.lst xs) (.tup [.ty "tuple", .ty "list"]) = some true := by
  show anyTy "list" [.ty "tuple", .ty "list"] = some true
  decide +kernel
theorem eq33 : eqD (.int ((3 : Nat) : Int)) (.int 3) = true := rfl

theorem dat_are_exponents : ∀ cs P Y, con_are_exponents A cs P Y → runD 2 (wd_are_exponents A fun C fs e => Y C fs (borsAt e (ownIx 0 cs))) cs P := by
  rintro cs P Y ⟨x, k, ⟨rfl, hx⟩, q⟩
  have all3 : ∀ Q : List DV → List Cell → Prop, (∀ e, Q [.bl true, .bl true, .bl true] e) → goLc [1] (gN 1) dYes (dDat (dCall (con_is_number A) (fun _ _ _ => False) (bCons (dVar 1) bNil))) Q (k3v k) [] [.d x, .un] := fun Q hQ => by
    refine lc_map (e := id) (F := fun _ => .bl true) (E0 := [.d x, .un]) (k3v k) _ _ rfl (fun y hy Q' hq => ?_) (fun e he => hQ e)
    unfold k3v at hy
    simp only [List.mem_cons, List.not_mem_nil, or_false] at hy
    rcases hy with rfl | rfl | rfl
    all_goals
      simp (maxSteps := 1000000) only [gN, dDat, dVar, optP, dCall, bNil, bCons, DL.cellOf, DL.borIx, DL.putB, DL.allOwn, okSet, Cell.frz, List.map_cons, List.map_nil, List.length_cons, List.length_nil, List.getElem?_cons_zero, List.getElem?_cons_succ, List.set_cons_zero, List.set_cons_succ, List.nodup_nil, true_and, and_true, Nat.zero_add, DL.dataOf, conF, Option.map_some, Out.to, con_is_number, f_is_number, isInt?, id]
      exact hq _ rfl
  unfold wd_are_exponents runD
  rcases hx with (rfl | rfl) | rfl
  all_goals
    refine seq_gen fun kk hk => ?_
    simp (maxSteps := 1000000) only [wRet, dCel, dDat, dVar, dC, dOp2d, dCmp, dBl, gEq, dAndV, iData, dI_lst, dI_tup, dI_ktup, dLc, optP, dVw, dPeek, dOp1, gBls, gLen, aNil, aCons, dTup, gIsi, DL.borsAt, ownIx, parC, Cell.view, Cell.frz, OC.frz, OC.flat, List.cons_append, List.nil_append, List.length_cons, List.length_nil, List.replicate_succ, List.replicate_zero, List.getElem?_cons_zero, Option.bind_some, true_and, and_true, if_true, if_false, Nat.reduceAdd, Nat.reduceSub, Nat.zero_add, Bool.not_true, Bool.false_eq_true, isi_t, isi_k, isi_l, k3v, lenD, eq33, ok_int]
    refine ⟨by decide, ?_⟩
    refine ⟨fun v hv c hc => by cases List.mem_singleton.mp hv; cases hc; rfl, all3 _ fun e => q⟩
theorem ok_are_exponents (T : Txt K mg A) {TB : List (Addr × Str)} : FnOk P w K mg base (L2.CX P w) 2 A.f_are_exponents A.fd_are_exponents ["thing"] (SpD K TB 0 (con_are_exponents A)) :=
  okD (c := _) (wd := wd_are_exponents A) T.F_are_exponents sc_are_exponents (fun cs P Y ⟨x, k, ⟨h, _⟩, _⟩ => by rw [h]; rfl) (by exact Nat.le_of_ble_eq_true rfl) (fun cdv A1 outer s H E G M hM hr => (psCons (psRet (PEd.cel (pdAnd (pdIsi T.rel (by rfl) T.no_isinstance (pdVar 0) (pdTup (paCons (pdBltn (by rfl) T.no_tuple (by rfl)) (paCons (pdBltn (by rfl) T.no_list (by rfl)) paNil)))) (pdAnd (pdEq hr.units (PEc.dat (pcLen (by rfl) T.no_len (pvName 0))) pdInt) (pdOne (PEc.dat (pcAll (by rfl) T.no_all (PEc.vw (pcLc (own := [("one", 1)]) sc_are_exponents.nd (piSeq (pdVar 0)) (blkOk_by (by rfl)) (fun _ _ _ _ _ => (pgN (i := 1) sc_are_exponents.nd rfl (by first | exact Or.inl rfl | exact Or.inr rfl))) (fun _ _ _ _ _ => ptsNil) (fun _ _ _ _ _ => (PEc.dat (pcCall mono_is_number (ok_is_number T) (hr.mono (by decide)) passF (by rfl) T.mg_is_number T.F_is_number.2 (b_is_number T) (pbCons (pdVar 1) pbNil)))) s (by decide)))))))))) psNil)) dat_are_exponents
end
end K13
set_option maxRecDepth 100000
set_option maxHeartbeats 4000000
namespace K13
open PySem PySem.Spec PyProof.Rows L2 DL LamX LTX
section
variable {P : Program} {w : World} {K : PySem.W.Frag} {mg : Str → Option Value} {base : Heap} {A : Adr}
/-! ### need_exponents -/
def wd_need_exponents (A : Adr) (G : Addr → List (Str × DV) → List Cell → Prop) : WS := (wSeq (wIf (dNot (dAsB (dDat (dCall (con_are_exponents A) G (bCons (dVar 0) bNil))))) (wSeq (wRaise A.c_BadRow ["row"] G (aCons (dVar 0) aNil)) wNil) wNil) wNil)
def conNE (A : Adr) : Con := fun cs P _ => ∃ x k, (cs = [.d x] ∧ ExpD x k) ∧ P (.d .non) []
theorem mono_conNE {A : Adr} : ConMono (conNE A) := fun cs P P2 Y Y2 hP hY ⟨x, k, h, q⟩ => ⟨x, k, h, hP _ _ q⟩
def con_need_exponents (A : Adr) : Con := conNE A
theorem mono_need_exponents : ConMono (con_need_exponents A) := mono_conNE
theorem dat_need_exponents : ∀ cs P Y, con_need_exponents A cs P Y → runD 1 (wd_need_exponents A fun C fs e => Y C fs (borsAt e (ownIx 0 cs))) cs P := by
  rintro cs P Y ⟨x, k, ⟨rfl, hx⟩, q⟩
  unfold wd_need_exponents runD
  refine seq_gen fun kk hk => ?_
  simp (maxSteps := 1000000) only [wNil, wIf, dDat, dVar, dAsB, dNot, dCall, bNil, bCons, DL.cellOf, DL.borIx, DL.putB, DL.allOwn, DL.borsAt, ownIx, parC, Cell.frz, OC.frz, List.map_cons, List.map_nil, List.cons_append, List.nil_append, List.length_cons, List.length_nil, List.replicate_zero, List.getElem?_cons_zero, List.nodup_nil, true_and, and_true, Nat.zero_add, Nat.sub_self, dNotInU, dIxU, wPutU, dListU, dDu, dBinOO, dNeO, dDisp1T, dDisp2T, gDictPT, gSortT, gMaxD, dMeth, dMake, isIns, isO, OC.u.injEq]
  unfold con_are_exponents conAE
  refine ⟨x, k, ⟨rfl, hx⟩, ?_⟩
  show kk _
  subst hk
  exact q
theorem ok_need_exponents (T : Txt K mg A) {TB : List (Addr × Str)} : FnOk P w K mg base (L2.CX P w) 3 A.f_need_exponents A.fd_need_exponents ["value"] (SpD K TB 0 (con_need_exponents A)) :=
  okD (c := _) (wd := wd_need_exponents A) T.F_need_exponents sc_need_exponents (fun cs P Y ⟨_, _, ⟨h, _⟩, _⟩ => by rw [h]; rfl) (by exact Nat.le_of_ble_eq_true rfl) (fun cdv A1 outer s H E G M hM hr => (psCons (psIf (ptNot (ptVal (PEc.dat (pcCall mono_are_exponents (ok_are_exponents T) (hr.mono (by decide)) passD (by rfl) T.mg_are_exponents T.F_are_exponents.2 (b_are_exponents T) (pbCons (pdVar 0) pbNil))))) (psCons (psRaise rfl takesD T.er_BadRow (by decide) (eok_BadRow T) (hr.mono (by decide)) (b_BadRow_init T) (by rfl) T.mg_BadRow (paCons (pdVar 0) paNil)) psNil) psNil) psNil)) dat_need_exponents
end
end K13
set_option maxRecDepth 100000
set_option maxHeartbeats 4000000
namespace K13
open PySem PySem.Spec PyProof.Rows L2 DL LamX LTX
section
variable {P : Program} {w : World} {K : PySem.W.Frag} {mg : Str → Option Value} {base : Heap} {A : Adr}
/-! ### need_from -/
def wd_need_from (A : Adr) (G : Addr → List (Str × DV) → List Cell → Prop) : WS := (wSeq (wIf (dOr (dNot (dAsB (dDat (dCall (con_is_number A) G (bCons (dVar 1) bNil))))) (tLt (dVar 1) (dVar 2))) (wSeq (wRaise A.c_BadNumber ["what", "number"] G (aCons (dVar 0) (aCons (dVar 1) aNil))) wNil) wNil) wNil)
def badN (A : Adr) (what : Str) (x : DV) (P : Cell → List OC → Prop) (Y : Addr → List (Str × DV) → List OC → Prop) : Prop := Y A.c_BadNumber [("number", x), ("what", .str what)] []
def conNF (A : Adr) : Con := fun cs P Y => ∃ (w : Str) (x : DV) (l : Int), cs = [.d (.str w), .d x, .d (.int l)] ∧ ((∃ i, x = .int i ∧ l ≤ i ∧ P (.d .non) []) ∨ (∃ i, x = .int i ∧ i < l ∧ badN A w x P Y) ∨ (isInt? x = some false ∧ badN A w x P Y))
theorem mono_conNF {A : Adr} : ConMono (conNF A) := fun cs P P2 Y Y2 hP hY ⟨w, x, l, h, q⟩ => ⟨w, x, l, h, q.elim (fun ⟨i, h1, h2, h3⟩ => .inl ⟨i, h1, h2, hP _ _ h3⟩) fun q => .inr (q.elim (fun ⟨i, h1, h2, h3⟩ => .inl ⟨i, h1, h2, hY _ _ _ h3⟩) fun ⟨h1, h2⟩ => .inr ⟨h1, hY _ _ _ h2⟩)⟩
def con_need_from (A : Adr) : Con := conNF A
theorem mono_need_from : ConMono (con_need_from A) := mono_conNF
theorem dat_need_from : ∀ cs P Y, con_need_from A cs P Y → runD 3 (wd_need_from A fun C fs e => Y C fs (borsAt e (ownIx 0 cs))) cs P := by
  rintro cs P Y ⟨w, x, l, rfl, q⟩
  unfold wd_need_from runD
  refine seq_gen fun kk hk => ?_
  rcases q with ⟨i, rfl, hi, q⟩ | ⟨i, rfl, hi, q⟩ | ⟨hx, q⟩
  · simp (maxSteps := 1000000) only [wNil, wIf, dDat, dVar, dCmp, dAsB, gB2, dOr, dNot, optP, dCall, bNil, bCons, DL.cellOf, DL.borIx, DL.putB, DL.allOwn, DL.borsAt, ownIx, parC, Cell.frz, List.map_cons, List.map_nil, List.cons_append, List.nil_append, List.length_cons, List.length_nil, List.replicate_zero, List.getElem?_cons_zero, List.getElem?_cons_succ, List.nodup_nil, true_and, and_true, if_true, if_false, Nat.reduceAdd, Nat.zero_add, Nat.sub_self, Bool.not_true, Bool.false_eq_true, DL.dataOf, conF, Option.map_some, Out.to, con_is_number, f_is_number, isInt?]
    rw [if_neg (by rw [decide_eq_false (by omega)]; intro z; cases z)]
    subst hk
    exact q
  · simp (maxSteps := 1000000) only [wNil, wIf, dDat, dVar, dCmp, dAsB, gB2, dOr, dNot, optP, dCall, bNil, bCons, DL.cellOf, DL.borIx, DL.putB, DL.allOwn, DL.borsAt, ownIx, parC, Cell.frz, List.map_cons, List.map_nil, List.cons_append, List.nil_append, List.length_cons, List.length_nil, List.replicate_zero, List.getElem?_cons_zero, List.getElem?_cons_succ, List.nodup_nil, true_and, and_true, if_true, if_false, Nat.reduceAdd, Nat.zero_add, Nat.sub_self, Bool.not_true, Bool.false_eq_true, DL.dataOf, conF, Option.map_some, Out.to, con_is_number, f_is_number, isInt?]
    rw [if_pos (decide_eq_true hi)]
    refine seq_gen fun k2 hk2 => ?_
    simp (maxSteps := 1000000) only [dVar, aNil, aCons, wRaise, List.cons_append, List.nil_append, List.length_cons, List.length_nil, List.getElem?_cons_zero, List.getElem?_cons_succ, true_and, Nat.reduceAdd, Nat.zero_add, List.zip_cons_cons, List.zip_nil_left, List.reverse_cons, List.reverse_nil]
    exact q
  · cases x <;> cases hx
    all_goals
      simp (maxSteps := 1000000) only [wNil, wIf, dDat, dVar, dCmp, dAsB, gB2, dOr, dNot, optP, dCall, bNil, bCons, DL.cellOf, DL.borIx, DL.putB, DL.allOwn, DL.borsAt, ownIx, parC, Cell.frz, List.map_cons, List.map_nil, List.cons_append, List.nil_append, List.length_cons, List.length_nil, List.replicate_zero, List.getElem?_cons_zero, List.getElem?_cons_succ, List.nodup_nil, true_and, and_true, if_true, Nat.reduceAdd, Nat.zero_add, Nat.sub_self, Bool.not_false, DL.dataOf, conF, Option.map_some, Out.to, con_is_number, f_is_number, isInt?]
      refine seq_gen fun k2 hk2 => ?_
      simp (maxSteps := 1000000) only [dVar, aNil, aCons, wRaise, List.cons_append, List.nil_append, List.length_cons, List.length_nil, List.getElem?_cons_zero, List.getElem?_cons_succ, true_and, Nat.reduceAdd, Nat.zero_add, List.zip_cons_cons, List.zip_nil_left, List.reverse_cons, List.reverse_nil]
      exact q
theorem ok_need_from (T : Txt K mg A) {TB : List (Addr × Str)} : FnOk P w K mg base (L2.CX P w) 3 A.f_need_from A.fd_need_from ["what", "value", "least"] (SpD K TB 0 (con_need_from A)) :=
  okD (c := _) (wd := wd_need_from A) T.F_need_from sc_need_from (fun cs P Y ⟨w, x, l, h, _⟩ => by rw [h]; rfl) (by exact Nat.le_of_ble_eq_true rfl) (fun cdv A1 outer s H E G M hM hr => (psCons (psIf (PWd.pt (pwOr (ptNot (ptVal (PEc.dat (pcCall mono_is_number (ok_is_number T) (hr.mono (by decide)) passD (by rfl) T.mg_is_number T.F_is_number.2 (b_is_number T) (pbCons (pdVar 1) pbNil))))) (pwOr1 (ptLt (pdVar 1) (pdVar 2))))) (psCons (psRaise rfl takesD T.er_BadNumber (by decide) (eok_BadNumber T) (hr.mono (by decide)) (b_BadNumber_init T) (by rfl) T.mg_BadNumber (paCons (pdVar 0) (paCons (pdVar 1) paNil))) psNil) psNil) psNil)) dat_need_from
end
end K13
set_option maxRecDepth 100000
set_option maxHeartbeats 4000000
namespace K13
open PySem PySem.Spec PyProof.Rows L2 DL LamX LTX
section
variable {P : Program} {w : World} {K : PySem.W.Frag} {mg : Str → Option Value} {base : Heap} {A : Adr}
/-! ### terms_of -/
def wd_terms_of (A : Adr) (G : Addr → List (Str × DV) → List Cell → Prop) : WS := (wSeq (wIf (dAsB (dOp2d (gIsi A.rel) (dVar 0) (dC (.ref A.c_Powers)))) (wSeq (wRet (dCel (dFld A.c_Powers "terms" (dPeek 0)))) wNil) wNil) (wSeq (wRet (dIf (dAsB (dDat (dCall (con_is_number A) G (bCons (dVar 0) bNil)))) (dCel (dTup (aCons (dTup (aCons (dC d_ORIGIN) (aCons (dVar 0) aNil))) aNil))) (dCel (dC .non)))) wNil))
def conTO (A : Adr) : Con := fun cs P _ => ∃ (t : List DV) (v : DV), A.rel = relN [A.c_Powers] ∧ cs = [.d (.ins A.c_Powers [("terms", .tup t), ("reach", v)])] ∧ P (.d (.tup t)) []
theorem mono_conTO {A : Adr} : ConMono (conTO A) := fun cs P P2 Y Y2 hP hY ⟨t, v, h, h2, q⟩ => ⟨t, v, h, h2, hP _ _ q⟩
def con_terms_of (A : Adr) : Con := conTO A
theorem mono_terms_of : ConMono (con_terms_of A) := mono_conTO
theorem dat_terms_of : ∀ cs P Y, con_terms_of A cs P Y → runD 1 (wd_terms_of A fun C fs e => Y C fs (borsAt e (ownIx 0 cs))) cs P := by
  rintro cs P Y ⟨t, v, hrel, rfl, q⟩
  unfold wd_terms_of runD
  refine seq_gen fun kk hk => ?_
  simp (maxSteps := 1000000) only [wNil, wIf, dVar, dC, dOp2d, dAsB, optP, gIsi, DL.borsAt, ownIx, parC, List.cons_append, List.nil_append, List.length_cons, List.length_nil, List.replicate_zero, List.getElem?_cons_zero, if_true, Nat.zero_add, Nat.sub_self, hrel, isi_insN (List.mem_singleton.mpr rfl)]
  refine seq_gen fun k2 hk2 => ?_
  simp (maxSteps := 1000000) only [wRet, dCel, optP, dPeek, dFld, Cell.view, List.getElem?_cons_zero, Option.bind_some, true_and, if_pos, true_and]
  exact q
theorem ok_terms_of (T : Txt K mg A) {TB : List (Addr × Str)} : FnOk P w K mg base (L2.CX P w) 2 A.f_terms_of A.fd_terms_of ["thing"] (SpD K TB 0 (con_terms_of A)) :=
  okD (c := _) (wd := wd_terms_of A) T.F_terms_of sc_terms_of (fun cs P Y ⟨t, v, _, h, _⟩ => by rw [h]; rfl) (by exact Nat.le_of_ble_eq_true rfl) (fun cdv A1 outer s H E G M hM hr => (psCons (psIf (ptVal (pdIsi T.rel (by rfl) T.no_isinstance (pdVar 0) (pdCls (by rfl) T.mg_Powers))) (psCons (psRet (PEd.cel (pdFld T.cl_Powers T.na_Powers_terms (pvName 0)))) psNil) psNil) (psCons (psRet (pcIf (ptVal (PEc.dat (pcCall mono_is_number (ok_is_number T) (hr.mono (by decide)) passD (by rfl) T.mg_is_number T.F_is_number.2 (b_is_number T) (pbCons (pdVar 0) pbNil)))) (PEd.cel (pdTup (paCons (pdTup (paCons (pdGlob (by rfl) T.mg_ORIGIN (by exact rfl) T.h_ORIGIN) (paCons (pdVar 0) paNil))) paNil))) (PEd.cel pdNon))) psNil))) dat_terms_of
end
end K13
set_option maxRecDepth 100000
set_option maxHeartbeats 4000000
namespace K13
open PySem PySem.Spec PyProof.Rows L2 DL LamX LTX
section
variable {P : Program} {w : World} {K : PySem.W.Frag} {mg : Str → Option Value} {base : Heap} {A : Adr}
/-! ### products -/
def wd_products (A : Adr) (G : Addr → List (Str × DV) → List Cell → Prop) : WS := (wSeq (wRet (dLc2 [5, 2, 3, 4, 9, 6, 7, 8] [9, 6, 7, 8] (iData (dVar 0)) (gT 2 (gsCons (gT 3 (gsCons (gN 2) (gsCons (gN 3) (gsCons (gN 4) gsNil)))) (gsCons (gN 5) gsNil))) dYes (iData (dVar 1)) (gT 2 (gsCons (gT 3 (gsCons (gN 6) (gsCons (gN 7) (gsCons (gN 8) gsNil)))) (gsCons (gN 9) gsNil))) dYes (dTup (aCons (dTup (aCons (dDat (dOp2 gAdd (dVar 2) (dVar 6))) (aCons (dDat (dOp2 gAdd (dVar 3) (dVar 7))) (aCons (dDat (dOp2 gAdd (dVar 4) (dVar 8))) aNil)))) (aCons (dDat (dOp2 gMul (dVar 5) (dVar 9))) aNil))))) wNil)
def conPd : Con := fun cs P _ => ∃ (ds es : List DV) (s t : Tms) (b1 b2 : Nat), (cs = [.d (.tup ds), .d (.tup es)] ∧ TmD ds s ∧ TmD es t) ∧ (s.length * t.length ≤ LINE ∧ s.length ≤ LINE ∧ t.length ≤ LINE) ∧ (Bits b1 s ∧ Bits b2 t ∧ b1 + b2 ≤ 1000000) ∧ ∀ fs, TmD fs (prods s t) → P (.o false (.l fs)) []
theorem mono_conPd : ConMono conPd := fun cs P P2 Y Y2 hP hY ⟨ds, es, s, t, b1, b2, h, h2, h3, q⟩ => ⟨ds, es, s, t, b1, b2, h, h2, h3, fun fs hf => hP _ _ (q fs hf)⟩
def con_products (A : Adr) : Con := conPd
theorem mono_products : ConMono (con_products A) := mono_conPd
theorem dat_products : ∀ cs P Y, con_products A cs P Y → runD 10 (wd_products A fun C fs e => Y C fs (borsAt e (ownIx 0 cs))) cs P := by
  rintro cs P Y ⟨ds, es, s, t, b1, b2, ⟨rfl, hs, ht⟩, ⟨l1, l2, l3⟩, ⟨B1, B2, B3⟩, q⟩
  obtain ⟨xs, rfl, rfl, hx⟩ := hs.un
  obtain ⟨us, rfl, rfl, hu⟩ := ht.un
  rw [List.length_map, List.length_map] at l1
  rw [List.length_map] at l2 l3
  unfold wd_products runD
  refine seq_gen fun kk hk => ?_
  simp (maxSteps := 1000000) only [wRet, DL.borsAt, ownIx, parC, List.cons_append, List.nil_append, List.length_cons, List.length_nil, List.replicate_succ, List.replicate_zero, Nat.reduceAdd, Nat.reduceSub, Nat.zero_add]
  refine ⟨?_, ?_⟩
  · intro v hv c hc
    simp only [List.mem_cons, List.not_mem_nil, or_false] at hv
    rcases hv with rfl | rfl | rfl | rfl | rfl | rfl | rfl | rfl <;> (cases hc; rfl)
  refine lc2_map (e := triV) (e1 := triV) (us := us) (F := fun x u => prodV x.2 u.2) (E0 := [.d (.tup (xs.map triV)), .d (.tup (us.map triV)), .un, .un, .un, .un, .un, .un, .un, .un]) (E1 := fun x => [.d (.tup (xs.map triV)), .d (.tup (us.map triV)), .d (.int x.2.1.1), .d (.int x.2.1.2.1), .d (.int x.2.1.2.2), .d (.int x.2.2), .un, .un, .un, .un]) (by decide) (fun x => rfl) xs _ _ (by rw [List.length_nil, Nat.zero_add]; exact l1) rfl (fun x hx' R hR => ?_) (fun x hx' u hu' Q' hq => ?_) (fun e he => ?_)
  · unfold triV
    rcases hx x hx' with e | e
    all_goals
      rw [e]
      simp (maxSteps := 1000000) only [gN, gsNil, gsCons, gT, dVar, iData, dI_tup, okSet, List.length_cons, List.length_nil, List.getElem?_cons_zero, List.getElem?_cons_succ, List.set_cons_zero, List.set_cons_succ, true_and, Nat.reduceAdd, Nat.zero_add, k3v]
      exact hR _ rfl
  · unfold triV
    rcases hu u hu' with e | e
    all_goals
      rw [e]
      simp (maxSteps := 1000000) only [gN, gsNil, gsCons, gT, dDat, dVar, dOp2, gAdd, gMul, aNil, aCons, dTup, okSet, Cell.frz, List.length_cons, List.length_nil, List.getElem?_cons_zero, List.getElem?_cons_succ, List.set_cons_zero, List.set_cons_succ, true_and, Nat.reduceAdd, Nat.zero_add, k3v]
      exact ⟨by decide, .inr (wide_mul (B1.2 x.2 (List.mem_map_of_mem hx')) (B2.2 u.2 (List.mem_map_of_mem hu')) B1.1 B2.1 B3), by decide, hq _ rfl⟩
  · refine q _ ?_
    have := prodsD (xs.map (·.2)) (us.map (·.2))
    rw [List.map_map] at this
    rw [List.nil_append]
    refine Eq.mp ?_ this
    congr 2
    refine List.map_congr_left fun x _ => ?_
    show (us.map (·.2)).map (prodV x.2) = _
    rw [List.map_map]
    rfl
theorem ok_products (T : Txt K mg A) {TB : List (Addr × Str)} : FnOk P w K mg base (L2.CX P w) 1 A.f_products A.fd_products ["one", "other"] (SpD K TB 0 (con_products A)) :=
  okD (c := _) (wd := wd_products A) T.F_products sc_products (fun cs P Y ⟨_, _, _, _, _, _, ⟨h, _⟩, _⟩ => by rw [h]; rfl) (by exact Nat.le_of_ble_eq_true rfl) (fun cdv A1 outer s H E G M hM hr => (psCons (psRet (pcLc2 (own := [("left", 5), ("i", 2), ("j", 3), ("h", 4), ("right", 9), ("a", 6), ("b", 7), ("c", 8)]) (vs1 := [9, 6, 7, 8]) sc_products.nd (piSeq (pdVar 0)) (blkOk_by (by rfl)) (by decide) (fun _ _ _ _ _ => (pgT (pgsCons (pgT (pgsCons (pgN (i := 2) sc_products.nd rfl (by first | exact Or.inl rfl | exact Or.inr rfl)) (pgsCons (pgN (i := 3) sc_products.nd rfl (by first | exact Or.inl rfl | exact Or.inr rfl)) (pgsCons (pgN (i := 4) sc_products.nd rfl (by first | exact Or.inl rfl | exact Or.inr rfl)) pgsNil)))) (pgsCons (pgN (i := 5) sc_products.nd rfl (by first | exact Or.inl rfl | exact Or.inr rfl)) pgsNil)))) (fun _ _ _ _ _ => ptsNil) (fun _ _ _ _ _ => (piSeq (pdVar 1))) (fun _ _ _ _ _ => (pgT (pgsCons (pgT (pgsCons (pgN (i := 6) sc_products.nd rfl (by first | exact Or.inl rfl | exact Or.inr rfl)) (pgsCons (pgN (i := 7) sc_products.nd rfl (by first | exact Or.inl rfl | exact Or.inr rfl)) (pgsCons (pgN (i := 8) sc_products.nd rfl (by first | exact Or.inl rfl | exact Or.inr rfl)) pgsNil)))) (pgsCons (pgN (i := 9) sc_products.nd rfl (by first | exact Or.inl rfl | exact Or.inr rfl)) pgsNil)))) (fun _ _ _ _ _ => ptsNil) (fun _ _ _ _ _ => (pdTup (paCons (pdTup (paCons (PEc.dat (pcAdd (pdVar 2) (pdVar 6))) (paCons (PEc.dat (pcAdd (pdVar 3) (pdVar 7))) (paCons (PEc.dat (pcAdd (pdVar 4) (pdVar 8))) paNil)))) (paCons (PEc.dat (pcMul (pdVar 5) (pdVar 9))) paNil)))) s (by decide) (by decide))) psNil)) dat_products
end
end K13
set_option maxRecDepth 100000
set_option maxHeartbeats 4000000
namespace K13
open PySem PySem.Spec PyProof.Rows L2 DL LamX LTX
section
variable {P : Program} {w : World} {K : PySem.W.Frag} {mg : Str → Option Value} {base : Heap} {A : Adr}
/-! ### Powers.__init__ -/
def bd_Powers_init_1 (A : Adr) (G : Addr → List (Str × DV) → List Cell → Prop) : WS := (wSeq (wIf (dOr (dNot (dAsB (dOp2d (gIsi A.rel) (dVar 3) (dTup (aCons (dC (.ty "tuple")) (aCons (dC (.ty "list")) aNil)))))) (tNe (dDat (dOp1 gLen (dPeek 3))) (dC (.int 2)))) (wSeq (wRaise A.c_BadRow ["row"] G (aCons (dVar 3) aNil)) wNil) wNil) (wSeq (wIf (dOr (dNot (dAsB (dDat (dCall (con_are_exponents A) G (bCons (dIxN 3 (dC (.int 0))) bNil))))) (dNot (dAsB (dDat (dCall (con_is_number A) G (bCons (dIxN 3 (dC (.int 1))) bNil)))))) (wSeq (wRaise A.c_BadRow ["row"] G (aCons (dVar 3) aNil)) wNil) wNil) (wSeq (wSet 4 (dOp1 gTuple (dIxN 3 (dC (.int 0))))) (wSeq (wIf (dNotInU 2 (dVar 4)) (wSeq (wPutU 2 (dC (.int 0)) (dVar 4)) wNil) wNil) (wSeq (wPutU 2 (dDat (dOp2 gAdd (dIxU 2 (dVar 4)) (dIxN 3 (dC (.int 1))))) (dVar 4)) wNil)))))
def wd_Powers_init (A : Adr) (G : Addr → List (Str × DV) → List Cell → Prop) : WS := (wSeq (wSet 2 dDu) (wSeq (wFor (iData (dVar 1)) (gN 3) (bd_Powers_init_1 A G)) (wSeq (wSet 5 (dLc [4] (iData (dDat (dOp1 gSortT (dVw (dListU 2))))) (gN 4) (tNe (dIxU 2 (dVar 4)) (dC (.int 0))) (dVar 4))) (wSeq (wFld 0 A.c_Powers "terms" (dDat (dOp1 gTuple (dVw (dLc [4] (iData (dVar 5)) (gN 4) dYes (dTup (aCons (dVar 4) (aCons (dIxU 2 (dVar 4)) aNil)))))))) (wSeq (wSet 6 (dLc [7] (iR1 (dC (.int 3))) (gN 7) dYes (dDat (dLc [4, 8] (iData (dFld A.c_Powers "terms" (dPeek 0))) (gT 2 (gsCons (gN 4) (gsCons (gN 8) gsNil))) dYes (dDat (dOp1 gAbs (dIxN 4 (dVar 7)))))))) (wSeq (wFld 0 A.c_Powers "reach" (dDat (dOp1 gTuple (dVw (dLc [9] (iData (dVar 6)) (gN 9) dYes (dDat (dOp1 (gMaxD 0) (dPeek 9)))))))) wNil))))))
def conPI (A : Adr) : Con := fun cs P _ => ∃ (b : Bool) (v : DV) (ds : List DV) (l : Tms), (cs = [.o b (.ins A.c_Powers []), .d v] ∧ (v = .lst ds ∨ v = .tup ds) ∧ ItmD ds l ∧ l.length < LINE) ∧ ∀ fs t, PwF fs t → Eqv t l → P (.d .non) [.ins A.c_Powers fs]
theorem mono_conPI {A : Adr} : ConMono (conPI A) := fun cs P P2 Y Y2 hP hY ⟨b, v, ds, l, h, q⟩ => ⟨b, v, ds, l, h, fun fs t h1 h2 => hP _ _ (q fs t h1 h2)⟩
def con_Powers_init (A : Adr) : Con := conPI A
theorem mono_Powers_init : ConMono (con_Powers_init A) := mono_conPI
theorem foldA_len (l t : Tms) : (foldA t l).length ≤ t.length + l.length := by
  induction l generalizing t with
  | nil => exact Nat.le_refl _
  | cons p l ih =>
    rw [foldA_cons]
    have := ih (addT t p.1 p.2)
    have h2 : (addT t p.1 p.2).length ≤ t.length + 1 := by
      unfold addT putT
      split
      · rw [List.length_map]; omega
      · rw [List.length_append]; exact Nat.le_refl _
    rw [List.length_cons]
    omega
theorem putT_put {t : Tms} {k : K3} {x : Int} (h : getT t k = none) : getT (putT t k 0) k = some 0 ∧ putT (putT t k 0) k x = putT t k x := by
  have e : putT t k 0 = t ++ [(k, 0)] := by unfold putT; rw [h]; rfl
  have g : getT (putT t k 0) k = some 0 := by
    rw [e]
    clear e
    induction t with
    | nil => show getT [(k, 0)] k = _; rw [getT_cons, if_pos rfl]
    | cons p t ih =>
      rw [getT_cons] at h
      split at h
      · cases h
      · rename_i n
        rw [List.cons_append, getT_cons, if_neg n, ih h]
  refine ⟨g, ?_⟩
  have n : ∀ p ∈ t, p.1 ≠ k := fun p hp z => by
    have := getT_some.mpr (z ▸ List.mem_map_of_mem (f := fun p : K3 × Int => p.1) hp)
    rw [h] at this
    cases this
  show (if (getT (putT t k 0) k).isSome then (putT t k 0).map (fun p => if p.1 = k then (k, x) else p) else putT t k 0 ++ [(k, x)]) = if (getT t k).isSome then t.map (fun p => if p.1 = k then (k, x) else p) else t ++ [(k, x)]
  rw [g, h, e]
  show (t ++ [(k, (0 : Int))]).map (fun p => if p.1 = k then (k, x) else p) = t ++ [(k, x)]
  rw [List.map_append]
  congr 1
  · conv => rhs; rw [← List.map_id t]
    refine List.map_congr_left fun p hp => ?_
    rw [if_neg (n p hp)]
    rfl
  · show [if k = k then (k, x) else (k, 0)] = _
    rw [if_pos rfl]
theorem eq22 : (!eqD (.int ((2 : Nat) : Int)) (.int 2)) = false := rfl
theorem at20 {a b : DV} : atI [a, b] 0 = some a := rfl
theorem at21 {a b : DV} : atI [a, b] 1 = some b := rfl
theorem init_tail {D : EndsD} {c0 c1 it ky : Cell} {kd idv : DV} {kvs : List (DV × Int)} {t : Tms} {k : K3} {n : Int} (ei : it = .d idv) (ek : ky = .d kd) (hx : (∃ a, idv = .tup [a, .int n]) ∨ ∃ a, idv = .lst [a, .int n]) (hk : KeyD kd k) (hu : U kvs t) (hl : t.length + 1 < LINE)
    (h : ∀ kvs', U kvs' (addT t k n) → D.nx [c0, c1, .o false (.u kvs'), it, ky, .un, .un, .un, .un, .un]) :
    wSeq (wIf (dNotInU 2 (dVar 4)) (wSeq (wPutU 2 (dC (.int 0)) (dVar 4)) wNil) wNil) (wSeq (wPutU 2 (dDat (dOp2 gAdd (dIxU 2 (dVar 4)) (dIxN 3 (dC (.int 1))))) (dVar 4)) wNil) D [c0, c1, .o false (.u kvs), it, ky, .un, .un, .un, .un, .un] := by
  subst ei ek
  have hul : kvs.length = t.length := hu.len
  have add : ∀ (kv2 : List (DV × Int)) (t2 : Tms) (m : Int), U kv2 t2 → t2.length < LINE → getT t2 k = some m → (U (uput kv2 kd (k3i k) (m + n)) (addT t k n)) → wSeq (wPutU 2 (dDat (dOp2 gAdd (dIxU 2 (dVar 4)) (dIxN 3 (dC (.int 1))))) (dVar 4)) wNil D [c0, c1, .o false (.u kv2), .d idv, .d kd, .un, .un, .un, .un, .un] := fun kv2 t2 m hu2 hl2 hg hU => by
    refine seq_gen fun k1 hk1 => ?_
    rcases hx with ⟨a, rfl⟩ | ⟨a, rfl⟩
    all_goals
      simp (maxSteps := 1000000) only [dDat, dVar, dC, dOp2, gAdd, dIxN, ixD, optP, exists_and_left, exists_and_right, exists_eq_left', exists_eq', and_assoc, Option.some.injEq, Cell.o.injEq, DV.int.injEq, Cell.view, Cell.frz, List.getElem?_cons_zero, List.getElem?_cons_succ, List.set_cons_zero, List.set_cons_succ, Option.bind_some, true_and, and_true, dNotInU, dIxU, wPutU, dListU, dDu, dBinOO, dNeO, dDisp1T, dDisp2T, gDictPT, gSortT, gMaxD, dMeth, dMake, isIns, isO, OC.u.injEq, at21]
      refine ⟨k3i k, hk.ik, m, (hu2.val k).trans hg, k3i k, hk.ik, by rw [hu2.len]; exact hl2, ?_⟩
      subst hk1
      exact h _ hU
  refine seq_gen fun k1 hk1 => ?_
  simp (maxSteps := 1000000) only [wNil, wIf, dVar, exists_and_left, exists_and_right, exists_eq_left', exists_eq', and_assoc, Option.some.injEq, Cell.o.injEq, List.getElem?_cons_zero, List.getElem?_cons_succ, true_and, dNotInU, dIxU, wPutU, dListU, dDu, dBinOO, dNeO, dDisp1T, dDisp2T, gDictPT, gSortT, gMaxD, dMeth, dMake, isIns, isO, OC.u.injEq]
  refine ⟨k3i k, hk.ik, ?_⟩
  rw [hu.val]
  cases g : getT t k with
  | some m =>
    rw [if_neg (by intro z; cases z)]
    subst hk1
    refine add kvs t m hu (by omega) g ?_
    have := hu.put hk (m + n)
    unfold addT
    rw [g]
    exact this
  | none =>
    rw [if_pos (show (!(none : Option Int).isSome) = true from rfl)]
    refine seq_gen fun k2 hk2 => ?_
    simp (maxSteps := 1000000) only [dVar, dC, exists_and_left, exists_eq_left', exists_eq', and_assoc, Option.some.injEq, Cell.o.injEq, DV.int.injEq, List.getElem?_cons_zero, List.getElem?_cons_succ, List.set_cons_zero, List.set_cons_succ, true_and, and_true, dNotInU, dIxU, wPutU, dListU, dDu, dBinOO, dNeO, dDisp1T, dDisp2T, gDictPT, gSortT, gMaxD, dMeth, dMake, isIns, isO, OC.u.injEq]
    refine ⟨k3i k, hk.ik, by rw [hul]; omega, ?_⟩
    subst hk2
    show k1 _
    subst hk1
    have hu2 := hu.put hk 0
    obtain ⟨g2, g3⟩ := putT_put (x := 0 + n) g
    refine add _ _ 0 hu2 ?_ g2 ?_
    · unfold putT
      rw [g]
      show (t ++ [(k, (0 : Int))]).length < LINE
      rw [List.length_append]
      exact hl
    · have := hu2.put hk (0 + n)
      rw [g3] at this
      unfold addT
      rw [g]
      exact this
theorem init_go {A : Adr} {G : Addr → List (Str × DV) → List Cell → Prop} {D : EndsD} {c0 c1 : Cell} : ∀ (ds : List DV) (l : Tms) (kvs : List (DV × Int)) (t : Tms) (x y : Cell), ItmD ds l → U kvs t → t.length + l.length < LINE → x.own = false → y.own = false →
    (∀ kvs x y, U kvs (foldA t l) → x.own = false → y.own = false → D.nx [c0, c1, .o false (.u kvs), x, y, .un, .un, .un, .un, .un]) →
    goFor (gN 3) (bd_Powers_init_1 A G) D ds [c0, c1, .o false (.u kvs), x, y, .un, .un, .un, .un, .un]
  | [], [], kvs, t, x, y, .nil, hu, _, hx, hy, h => h kvs x y hu hx hy
  | d :: ds, p :: l, kvs, t, x, y, .cons hd r, hu, hl, hx, hy, h => by
    obtain ⟨ke, hk, hd⟩ := hd
    rw [List.length_cons] at hl
    unfold goFor
    have hxx : okSet [c0, c1, .o false (.u kvs), x, y, .un, .un, .un, .un, .un] 3 := by
      cases x <;> first | trivial | cases hx
    refine And.intro hxx ?_
    show bd_Powers_init_1 A G { D with nx := goFor (gN 3) (bd_Powers_init_1 A G) D ds, ct := goFor (gN 3) (bd_Powers_init_1 A G) D ds, bk := D.nx } _
    generalize hF : goFor (gN 3) (bd_Powers_init_1 A G) D ds = F
    unfold bd_Powers_init_1
    rcases hd with rfl | rfl
    all_goals
      refine seq_gen fun k1 hk1 => ?_
      simp (maxSteps := 1000000) only [wNil, wIf, dDat, dVar, dC, dOp2d, dCmp, dAsB, gEq, dOr, dNot, optP, dPeek, dOp1, gLen, aNil, aCons, dTup, gIsi, Cell.view, Cell.frz, List.length_cons, List.length_nil, List.getElem?_cons_zero, List.getElem?_cons_succ, List.set_cons_zero, List.set_cons_succ, Option.bind_some, true_and, and_true, if_true, if_false, Nat.reduceAdd, Nat.zero_add, Bool.not_true, Bool.false_eq_true, dNotInU, dIxU, wPutU, dListU, dDu, dBinOO, dNeO, dDisp1T, dDisp2T, gDictPT, gSortT, gMaxD, dMeth, dMake, isIns, isO, OC.u.injEq, isi_t, isi_l, lenD, ok_int, eq22]
      refine ⟨by decide, ?_⟩
      subst hk1
      refine seq_gen fun k1 hk1 => ?_
      simp (maxSteps := 1000000) only [wNil, wIf, dDat, dC, dAsB, dOr, dNot, dIxN, ixD, optP, exists_and_left, exists_and_right, and_assoc, dCall, bNil, bCons, DL.cellOf, DL.borIx, DL.putB, DL.allOwn, Cell.view, Cell.frz, List.map_cons, List.map_nil, List.length_cons, List.length_nil, List.getElem?_cons_zero, List.getElem?_cons_succ, Option.bind_some, List.nodup_nil, true_and, and_true, if_true, if_false, Nat.zero_add, Bool.not_true, Bool.false_eq_true, DL.dataOf, conF, Option.map_some, Out.to, dNotInU, dIxU, wPutU, dListU, dDu, dBinOO, dNeO, dDisp1T, dDisp2T, gDictPT, gSortT, gMaxD, dMeth, dMake, isIns, isO, OC.u.injEq, con_are_exponents, conAE, at20, at21, con_is_number, f_is_number, isInt?]
      refine ⟨ke, rfl, ⟨p.1, hk⟩, ?_⟩
      subst hk1
      refine seq_gen fun k1 hk1 => ?_
      simp (maxSteps := 1000000) only [wSet, dC, dIxN, ixD, optP, dOp1, gTuple, okSet, Cell.view, List.getElem?_cons_zero, List.getElem?_cons_succ, List.set_cons_zero, List.set_cons_succ, Option.bind_some, true_and, dNotInU, dIxU, wPutU, dListU, dDu, dBinOO, dNeO, dDisp1T, dDisp2T, gDictPT, gSortT, gMaxD, dMeth, dMake, isIns, isO, OC.u.injEq, at20, at21]
      rcases hk with (rfl | rfl) | rfl
      all_goals
        refine ⟨(by cases y <;> first | trivial | cases hy), ?_⟩
        subst hk1
        refine init_tail rfl rfl (by first | exact .inl ⟨_, rfl⟩ | exact .inr ⟨_, rfl⟩) (by first | exact .inl rfl | exact .inr rfl) hu (by omega) fun kv2 hu2 => ?_
        subst hF
        exact init_go ds l kv2 (addT t p.1 p.2) _ _ r hu2 (by
          have : (addT t p.1 p.2).length ≤ t.length + 1 := by
            unfold addT putT
            split
            · rw [List.length_map]; omega
            · rw [List.length_append]; exact Nat.le_refl _
          omega) rfl rfl h
theorem dat_Powers_init : ∀ cs P Y, con_Powers_init A cs P Y → runD 10 (wd_Powers_init A fun C fs e => Y C fs (borsAt e (ownIx 0 cs))) cs P := by
  rintro cs P Y ⟨b, v, ds, l, ⟨rfl, hv, hi, hl⟩, q⟩
  unfold wd_Powers_init runD
  refine seq_gen fun kk hk => ?_
  simp (maxSteps := 1000000) only [wSet, parC, okSet, List.cons_append, List.nil_append, List.length_cons, List.length_nil, List.replicate_succ, List.replicate_zero, List.getElem?_cons_zero, List.getElem?_cons_succ, List.set_cons_zero, List.set_cons_succ, true_and, Nat.reduceAdd, Nat.reduceSub, Nat.zero_add, dNotInU, dIxU, wPutU, dListU, dDu, dBinOO, dNeO, dDisp1T, dDisp2T, gDictPT, gSortT, gMaxD, dMeth, dMake, isIns, isO, OC.u.injEq]
  subst hk
  refine seq_gen fun kk hk => ?_
  have fin : ∀ kvs x y, U kvs (foldA [] l) → x.own = false → y.own = false → kk [.o true (.ins A.c_Powers []), .d v, .o false (.u kvs), x, y, .un, .un, .un, .un, .un] := fun kvs x y hu hx hy => by
    subst hk
    show restI A.c_Powers _ _
    obtain ⟨hn, _, _⟩ := foldA_ok l [] List.nodup_nil
    have := foldA_len l []
    rw [List.length_nil, Nat.zero_add] at this
    refine init_rest hn hu hy (by omega) fun fs u e hp he h0 => ?_
    have hq := q fs u hp (he.trans (foldA_eqv l))
    show P (.d .non) (borsAt e [0])
    unfold borsAt borsAt
    rw [h0]
    exact hq
  clear hk
  have h0 : ([] : Tms).length + l.length < LINE := by rw [List.length_nil, Nat.zero_add]; exact hl
  have hlen : ds.length = l.length := Paired.length hi
  rcases hv with rfl | rfl
  all_goals
    simp (maxSteps := 1000000) only [wFor, dVar, iData, dI_lst, dI_tup, DL.borsAt, ownIx, List.getElem?_cons_zero, List.getElem?_cons_succ, dNotInU, dIxU, wPutU, dListU, dDu, dBinOO, dNeO, dDisp1T, dDisp2T, gDictPT, gSortT, gMaxD, dMeth, dMake, isIns, isO, OC.u.injEq]
    exact init_go ds l [] [] .un .un hi .nil h0 rfl rfl fin
theorem ok_Powers_init (T : Txt K mg A) {TB : List (Addr × Str)} : FnOk P w K mg base (L2.CX P w) 3 A.f_Powers_init A.fd_Powers_init ["self", "terms"] (SpD K TB 0 (con_Powers_init A)) :=
  okD (c := _) (wd := wd_Powers_init A) T.F_Powers_init sc_Powers_init (fun cs P Y ⟨_, _, _, _, ⟨h, _⟩, _⟩ => by rw [h]; rfl) (by exact Nat.le_of_ble_eq_true rfl) (fun cdv A1 outer s H E G M hM hr => (psCons (psSet (i := 2) sc_Powers_init.nd rfl (by first | exact Or.inl rfl | exact Or.inr rfl) pcDu) (psCons (psFor ownD (piSeq (pdVar 1)) (pgN (i := 3) sc_Powers_init.nd rfl (by first | exact Or.inl rfl | exact Or.inr rfl)) (psCons (psIf (PWd.pt (pwOr (ptNot (ptVal (pdIsi T.rel (by rfl) T.no_isinstance (pdVar 3) (pdTup (paCons (pdBltn (by rfl) T.no_tuple (by rfl)) (paCons (pdBltn (by rfl) T.no_list (by rfl)) paNil)))))) (pwOr1 (ptNe hr.units (PEc.dat (pcLen (by rfl) T.no_len (pvName 3))) pdInt)))) (psCons (psRaise rfl takesD T.er_BadRow (by decide) (eok_BadRow T) (hr.mono (by decide)) (b_BadRow_init T) (by rfl) T.mg_BadRow (paCons (pdVar 3) paNil)) psNil) psNil) (psCons (psIf (PWd.pt (pwOr (ptNot (ptVal (PEc.dat (pcCall mono_are_exponents (ok_are_exponents T) (hr.mono (by decide)) passD (by rfl) T.mg_are_exponents T.F_are_exponents.2 (b_are_exponents T) (pbCons (pdIxN 3 (u1 hr) pdInt (fun _ _ => rfl)) pbNil))))) (pwOr1 (ptNot (ptVal (PEc.dat (pcCall mono_is_number (ok_is_number T) (hr.mono (by decide)) passD (by rfl) T.mg_is_number T.F_is_number.2 (b_is_number T) (pbCons (pdIxN 3 (u1 hr) pdInt (fun _ _ => rfl)) pbNil)))))))) (psCons (psRaise rfl takesD T.er_BadRow (by decide) (eok_BadRow T) (hr.mono (by decide)) (b_BadRow_init T) (by rfl) T.mg_BadRow (paCons (pdVar 3) paNil)) psNil) psNil) (psCons (psSet (i := 4) sc_Powers_init.nd rfl (by first | exact Or.inl rfl | exact Or.inr rfl) (pcTuple (by rfl) T.no_tuple (PEd.vw (pdIxN 3 (u1 hr) pdInt (fun _ _ => rfl))))) (psCons (psIf (ptNotInU 2 (u65 hr) (pdVar 4)) (psCons (psPutU 2 (u1 hr) pdInt (pdVar 4)) psNil) psNil) (psCons (psPutU 2 (u1 hr) (PEc.dat (pcAdd (pdIxU 2 (u1 hr) (pdVar 4) (fun _ _ => rfl)) (pdIxN 3 (u1 hr) pdInt (fun _ _ => rfl)))) (pdVar 4)) psNil)))))) (psCons (psSetLc (own := [("exponents", 4)]) sc_Powers_init.nd (k := 5) rfl rfl rfl (piSeq (PEc.dat (pcSortT hr.units (by rfl) T.no_sorted (PEc.vw (pcListU 2 (by rfl) T.no_list))))) (blkOk_by (by rfl)) (fun _ _ _ _ _ => (pgN (i := 4) sc_Powers_init.nd rfl (by first | exact Or.inl rfl | exact Or.inr rfl))) (fun _ _ _ _ _ => (ptsOne (ptNe hr.units (pdIxU 2 (u1 hr) (pdVar 4) (fun _ _ => rfl)) pdInt))) (fun _ _ _ _ _ => (pdVar 4)) s (by decide)) (psCons (psFld 0 T.cl_Powers T.na_Powers_terms (PEc.dat (pcTuple (by rfl) T.no_tuple (PEc.vw (pcLc (own := [("exponents", 4)]) sc_Powers_init.nd (piSeq (pdVar 5)) (blkOk_by (by rfl)) (fun _ _ _ _ _ => (pgN (i := 4) sc_Powers_init.nd rfl (by first | exact Or.inl rfl | exact Or.inr rfl))) (fun _ _ _ _ _ => ptsNil) (fun _ _ _ _ _ => (pdTup (paCons (pdVar 4) (paCons (pdIxU 2 (u1 hr) (pdVar 4) (fun _ _ => rfl)) paNil)))) s (by decide)))))) (psCons (psSetLc (own := [("k", 7)]) sc_Powers_init.nd (k := 6) rfl rfl rfl (piRange1 (by rfl) T.no_range pdInt) (blkOk_by (by rfl)) (fun _ _ _ _ _ => (pgN (i := 7) sc_Powers_init.nd rfl (by first | exact Or.inl rfl | exact Or.inr rfl))) (fun _ _ _ _ _ => ptsNil) (fun _ _ _ _ _ => (PEc.dat (pcLc (own := [("exponents", 4), ("amount", 8)]) sc_Powers_init.nd (piSeq (pdFld T.cl_Powers T.na_Powers_terms (pvName 0))) (blkOk_by (by rfl)) (fun _ _ _ _ _ => (pgT (pgsCons (pgN (i := 4) sc_Powers_init.nd rfl (by first | exact Or.inl rfl | exact Or.inr rfl)) (pgsCons (pgN (i := 8) sc_Powers_init.nd rfl (by first | exact Or.inl rfl | exact Or.inr rfl)) pgsNil)))) (fun _ _ _ _ _ => ptsNil) (fun _ _ _ _ _ => (PEc.dat (pcAbs (by rfl) T.no_abs (PEd.vw (pdIxN 4 (u1 hr) (pdVar 7) (fun _ _ => rfl)))))) s (by decide)))) s (by decide)) (psCons (psFld 0 T.cl_Powers T.na_Powers_reach (PEc.dat (pcTuple (by rfl) T.no_tuple (PEc.vw (pcLc (own := [("some", 9)]) sc_Powers_init.nd (piSeq (pdVar 6)) (blkOk_by (by rfl)) (fun _ _ _ _ _ => (pgN (i := 9) sc_Powers_init.nd rfl (by first | exact Or.inl rfl | exact Or.inr rfl))) (fun _ _ _ _ _ => ptsNil) (fun _ _ _ _ _ => (PEc.dat (pcMaxD hr.units (by rfl) T.no_max (pvName 9)))) s (by decide)))))) psNil))))))) dat_Powers_init
theorem hret_Powers_init : ∀ cs P Y, con_Powers_init A cs P Y → con_Powers_init A cs (fun r os => r = .d .non ∧ P r os) Y := fun cs P Y ⟨b, v, ds, l, h, q⟩ => ⟨b, v, ds, l, h, fun fs t h1 h2 => ⟨rfl, q fs t h1 h2⟩⟩
end
end K13
set_option maxRecDepth 100000
set_option maxHeartbeats 4000000
namespace K13
open PySem PySem.Spec PyProof.Rows L2 DL LamX LTX
section
variable {P : Program} {w : World} {K : PySem.W.Frag} {mg : Str → Option Value} {base : Heap} {A : Adr}
/-! ### Powers.__mul__ -/
def wd_Powers_mul (A : Adr) (G : Addr → List (Str × DV) → List Cell → Prop) : WS := (wSeq (wSet 2 (dCall (con_terms_of A) G (bCons (dVar 1) bNil))) (wSeq (wIf (dIsN false (dPeek 2)) (wSeq (fun _ _ => False) wNil) wNil) (wSeq (wRet (dMake A.c_Powers (con_Powers_init A) G [] (aCons (dDat (dCall (con_products A) G (bCons (dFld A.c_Powers "terms" (dPeek 0)) (bCons (dVar 2) bNil)))) aNil))) wNil)))
def conMu (A : Adr) : Con := fun cs P _ => ∃ (s t : Tms) (v u : DV) (b1 b2 : Nat), A.rel = relN [A.c_Powers] ∧ (cs = [.d v, .d u] ∧ PwD A.c_Powers v s ∧ PwD A.c_Powers u t) ∧ (s.length * t.length < LINE ∧ s.length ≤ LINE ∧ t.length ≤ LINE) ∧ (Bits b1 s ∧ Bits b2 t ∧ b1 + b2 ≤ 1000000) ∧ ∀ fs r, PwF fs r → Eqv r (prods s t) → P (.o false (.ins A.c_Powers fs)) []
theorem mono_conMu {A : Adr} : ConMono (conMu A) := fun cs P P2 Y Y2 hP hY ⟨s, t, v, u, b1, b2, hr, h, h2, h3, q⟩ => ⟨s, t, v, u, b1, b2, hr, h, h2, h3, fun fs r h4 h5 => hP _ _ (q fs r h4 h5)⟩
def con_Powers_mul (A : Adr) : Con := conMu A
theorem mono_Powers_mul : ConMono (con_Powers_mul A) := mono_conMu
theorem dat_Powers_mul : ∀ cs P Y, con_Powers_mul A cs P Y → runD 3 (wd_Powers_mul A fun C fs e => Y C fs (borsAt e (ownIx 0 cs))) cs P := by
  rintro cs P Y ⟨s, t, v, u, b1, b2, hrel, ⟨rfl, ⟨fs, rfl, hc, ts, rs, rfl, ht⟩, ⟨gs, rfl, hc2, us, rs2, rfl, ht2⟩⟩, ⟨l1, l2, l3⟩, B, q⟩
  unfold wd_Powers_mul runD
  refine seq_gen fun kk hk => ?_
  simp (maxSteps := 1000000) only [wSet, dVar, exists_and_left, exists_and_right, dCall, bNil, bCons, DL.cellOf, DL.borIx, DL.putB, DL.allOwn, parC, okSet, List.map_cons, List.map_nil, List.cons_append, List.nil_append, List.length_cons, List.length_nil, List.replicate_succ, List.replicate_zero, List.getElem?_cons_zero, List.getElem?_cons_succ, List.set_cons_zero, List.set_cons_succ, List.nodup_nil, true_and, and_true, Nat.reduceAdd, Nat.reduceSub, Nat.zero_add, dNotInU, dIxU, wPutU, dListU, dDu, dBinOO, dNeO, dDisp1T, dDisp2T, gDictPT, gSortT, gMaxD, dMeth, dMake, isIns, isO, OC.u.injEq, con_terms_of, conTO]
  refine ⟨hrel, us, ⟨rs2, rfl⟩, ?_⟩
  subst hk
  refine seq_gen fun kk hk => ?_
  simp (maxSteps := 1000000) only [wNil, wIf, optP, dPeek, dIsN, DL.borsAt, ownIx, Cell.view, List.getElem?_cons_zero, List.getElem?_cons_succ, Option.bind_some, dNotInU, dIxU, wPutU, dListU, dDu, dBinOO, dNeO, dDisp1T, dDisp2T, gDictPT, gSortT, gMaxD, dMeth, dMake, isIns, isO, OC.u.injEq]
  rw [if_neg (by intro z; cases z)]
  subst hk
  refine seq_gen fun kk hk => ?_
  simp (maxSteps := 1000000) only [wRet, dDat, dVar, optP, dPeek, aNil, aCons, dFld, dCall, bNil, bCons, DL.cellOf, DL.borIx, DL.putB, DL.allOwn, DL.borsAt, ownIx, Cell.view, Cell.frz, OC.frz, List.map_cons, List.map_nil, List.cons_append, List.nil_append, List.getElem?_cons_zero, List.getElem?_cons_succ, Option.bind_some, List.nodup_nil, true_and, and_true, dNotInU, dIxU, wPutU, dListU, dDu, dBinOO, dNeO, dDisp1T, dDisp2T, gDictPT, gSortT, gMaxD, dMeth, dMake, isIns, isO, OC.u.injEq, con_products, fl_terms]
  refine ⟨ts, us, s, t, b1, b2, ⟨rfl, ht, ht2⟩, ⟨Nat.le_of_lt l1, l2, l3⟩, B, fun ds hds => ?_⟩
  simp (maxSteps := 1000000) only [dNotInU, dIxU, wPutU, dListU, dDu, dBinOO, dNeO, dDisp1T, dDisp2T, gDictPT, gSortT, gMaxD, dMeth, dMake, isIns, isO, OC.u.injEq, con_Powers_init]
  exact ⟨true, _, ds, prods s t, ⟨rfl, .inl rfl, hds.items, by rw [len_prods]; exact l1⟩, fun fs r hp he => q fs r hp he⟩
theorem ok_Powers_mul (T : Txt K mg A) {TB : List (Addr × Str)} : FnOk P w K mg base (L2.CX P w) 5 A.f_Powers_mul A.fd_Powers_mul ["self", "other"] (SpD K TB 0 (con_Powers_mul A)) :=
  okD (c := _) (wd := wd_Powers_mul A) T.F_Powers_mul sc_Powers_mul (fun cs P Y ⟨_, _, _, _, _, _, _, ⟨h, _⟩, _⟩ => by rw [h]; rfl) (by exact Nat.le_of_ble_eq_true rfl) (fun cdv A1 outer s H E G M hM hr => (psCons (psSet (i := 2) sc_Powers_mul.nd rfl (by first | exact Or.inl rfl | exact Or.inr rfl) (pcCall mono_terms_of (ok_terms_of T) (hr.mono (by decide)) passD (by rfl) T.mg_terms_of T.F_terms_of.2 (b_terms_of T) (pbCons (pdVar 1) pbNil))) (psCons (psIf (ptIsN (pvName 2)) (psCons psDead psNil) psNil) (psCons (psRet (pcMake mono_Powers_init T.mk_Powers (ok_Powers_init T) hret_Powers_init (hr.mono (by decide)) passD (by rfl) T.mg_Powers (b_Powers_init T) (.nil) (fun _ => .nil) (paCons (PEc.dat (pcCall mono_products (ok_products T) (hr.mono (by decide)) passD (by rfl) T.mg_products T.F_products.2 (b_products T) (pbCons (pdFld T.cl_Powers T.na_Powers_terms (pvName 0)) (pbCons (pdVar 2) pbNil)))) paNil))) psNil)))) dat_Powers_mul
end
end K13
set_option maxRecDepth 100000
set_option maxHeartbeats 4000000
namespace K13
open PySem PySem.Spec PyProof.Rows L2 DL LamX LTX
section
variable {P : Program} {w : World} {K : PySem.W.Frag} {mg : Str → Option Value} {base : Heap} {A : Adr}
/-! ### Powers.__eq__ -/
def wd_Powers_eq (A : Adr) (G : Addr → List (Str × DV) → List Cell → Prop) : WS := (wSeq (wIf (dAsB (dDat (dCall (con_is_number A) G (bCons (dVar 1) bNil)))) (wSeq (wRet (dCel (dBl (tEq (dFld A.c_Powers "terms" (dPeek 0)) (dDat (dIf (tNe (dVar 1) (dC (.int 0))) (dCel (dTup (aCons (dTup (aCons (dC d_ORIGIN) (aCons (dVar 1) aNil))) aNil))) (dCel (dTup aNil)))))))) wNil) wNil) (wSeq (wRet (dCel (dAndV (dOp2d (gIsi A.rel) (dVar 1) (dC (.ref A.c_Powers))) (dBl (tEq (dFld A.c_Powers "terms" (dPeek 0)) (dFld A.c_Powers "terms" (dPeek 1))))))) wNil))
def conEq (A : Adr) : Con := fun cs P _ => ∃ (t : Tms) (v u : DV), A.rel = relN [A.c_Powers] ∧ (cs = [.d v, .d u] ∧ PwD A.c_Powers v t ∧ PwD A.c_Powers u t) ∧ P (.d (.bl true)) []
theorem mono_conEq {A : Adr} : ConMono (conEq A) := fun cs P P2 Y Y2 hP hY ⟨t, v, u, hr, h, q⟩ => ⟨t, v, u, hr, h, hP _ _ q⟩
def con_Powers_eq (A : Adr) : Con := conEq A
theorem mono_Powers_eq : ConMono (con_Powers_eq A) := mono_conEq
theorem dat_Powers_eq : ∀ cs P Y, con_Powers_eq A cs P Y → runD 2 (wd_Powers_eq A fun C fs e => Y C fs (borsAt e (ownIx 0 cs))) cs P := by
  rintro cs P Y ⟨t, v, u, hrel, ⟨rfl, ⟨fs, rfl, hc, ts, rs, rfl, ht⟩, ⟨gs, rfl, hc2, us, rs2, rfl, ht2⟩⟩, q⟩
  unfold wd_Powers_eq runD
  refine seq_gen fun kk hk => ?_
  simp (maxSteps := 1000000) only [wNil, wIf, dDat, dVar, dAsB, optP, dCall, bNil, bCons, DL.cellOf, DL.borIx, DL.putB, DL.allOwn, DL.borsAt, ownIx, parC, Cell.frz, List.map_cons, List.map_nil, List.cons_append, List.nil_append, List.length_cons, List.length_nil, List.replicate_zero, List.getElem?_cons_zero, List.getElem?_cons_succ, List.nodup_nil, true_and, and_true, if_false, Nat.reduceAdd, Nat.zero_add, Nat.sub_self, Bool.false_eq_true, DL.dataOf, conF, Option.map_some, Out.to, dNotInU, dIxU, wPutU, dListU, dDu, dBinOO, dNeO, dDisp1T, dDisp2T, gDictPT, gSortT, gMaxD, dMeth, dMake, isIns, isO, OC.u.injEq, con_is_number, f_is_number, if_pos]
  subst hk
  refine seq_gen fun kk hk => ?_
  simp (maxSteps := 1000000) only [wRet, dCel, dVar, dC, dOp2d, dCmp, dBl, gEq, dAndV, optP, dPeek, gIsi, dFld, DL.borsAt, ownIx, Cell.view, List.getElem?_cons_zero, List.getElem?_cons_succ, Option.bind_some, true_and, and_true, if_true, if_false, Bool.not_true, Bool.false_eq_true, dNotInU, dIxU, wPutU, dListU, dDu, dBinOO, dNeO, dDisp1T, dDisp2T, gDictPT, gSortT, gMaxD, dMeth, dMake, isIns, isO, OC.u.injEq, hrel, isi_insN (List.mem_singleton.mpr rfl), fl_terms, ht.py.2, ht2.py.2, tm_eq ht ht2]
  exact q
theorem ok_Powers_eq (T : Txt K mg A) {TB : List (Addr × Str)} : FnOk P w K mg base (L2.CX P w) 2 A.f_Powers_eq A.fd_Powers_eq ["self", "other"] (SpD K TB 0 (con_Powers_eq A)) :=
  okD (c := _) (wd := wd_Powers_eq A) T.F_Powers_eq sc_Powers_eq (fun cs P Y ⟨_, _, _, _, ⟨h, _⟩, _⟩ => by rw [h]; rfl) (by exact Nat.le_of_ble_eq_true rfl) (fun cdv A1 outer s H E G M hM hr => (psCons (psIf (ptVal (PEc.dat (pcCall mono_is_number (ok_is_number T) (hr.mono (by decide)) passD (by rfl) T.mg_is_number T.F_is_number.2 (b_is_number T) (pbCons (pdVar 1) pbNil)))) (psCons (psRet (PEd.cel (pdEq hr.units (pdFld T.cl_Powers T.na_Powers_terms (pvName 0)) (PEc.dat (pcIf (ptNe hr.units (pdVar 1) pdInt) (PEd.cel (pdTup (paCons (pdTup (paCons (pdGlob (by rfl) T.mg_ORIGIN (by exact rfl) T.h_ORIGIN) (paCons (pdVar 1) paNil))) paNil))) (PEd.cel (pdTup paNil))))))) psNil) psNil) (psCons (psRet (PEd.cel (pdAnd (pdIsi T.rel (by rfl) T.no_isinstance (pdVar 1) (pdCls (by rfl) T.mg_Powers)) (pdOne (pdEq hr.units (pdFld T.cl_Powers T.na_Powers_terms (pvName 0)) (pdFld T.cl_Powers T.na_Powers_terms (pvName 1))))))) psNil))) dat_Powers_eq
end
end K13
set_option maxRecDepth 100000
set_option maxHeartbeats 4000000
namespace K13
open PySem PySem.Spec PyProof.Rows L2 DL LamX LTX
section
variable {P : Program} {w : World} {K : PySem.W.Frag} {mg : Str → Option Value} {base : Heap} {A : Adr}
/-! ### Powers.raised -/
def bd_Powers_raised_1 (A : Adr) (G : Addr → List (Str × DV) → List Cell → Prop) : WS := (wSeq (wIf (tEq (dMod (dVar 1) (dC (.int 2))) (dC (.int 1))) (wSeq (wSet 2 (dBinOO A.c_Powers (con_Powers_mul A) G (dVar 2) (dVar 3))) wNil) wNil) (wSeq (wSet 1 (dCel (dFdiv (dVar 1) (dC (.int 2))))) (wSeq (wIf (tGt (dVar 1) (dC (.int 0))) (wSeq (wSet 3 (dBinOO A.c_Powers (con_Powers_mul A) G (dVar 3) (dVar 3))) wNil) wNil) wNil)))
def wd_Powers_raised (A : Adr) (G : Addr → List (Str × DV) → List Cell → Prop) : WS := (wSeq (wDrop (dCall (con_need_from A) G (bCons (dC (.str "n")) (bCons (dVar 1) (bCons (dC (.int 0)) bNil))))) (wSeq (wIf (tGt (dVar 1) (dC (.int 200))) (wSeq (wRaise A.c_TooLarge ["what", "number", "limit"] G (aCons (dC (.str "n")) (aCons (dVar 1) (aCons (dC (.int 200)) aNil)))) wNil) wNil) (wSeq (wPar 2 3 (dMake A.c_Powers (con_Powers_init A) G [] (aCons (dDat (dLst (aCons (dTup (aCons (dC d_ORIGIN) (aCons (dC (.int 1)) aNil))) aNil))) aNil)) (dCel (dVar 0))) (wSeq (wWhile (tGt (dVar 1) (dC (.int 0))) (bd_Powers_raised_1 A G)) (wSeq (wRet (dCel (dVar 2))) wNil)))))
def conRa (A : Adr) : Con := fun cs P Y => ∃ (s : Tms) (v x : DV), A.rel = relN [A.c_Powers] ∧ (cs = [.d v, .d x] ∧ PwD A.c_Powers v s) ∧ ((isInt? x = some false ∧ badN A "n" x P Y) ∨ (∃ i : Int, x = .int i ∧ i < 0 ∧ badN A "n" x P Y) ∨ (∃ i : Int, x = .int i ∧ 200 < i ∧ Y A.c_TooLarge [("limit", .int 200), ("number", x), ("what", .str "n")] []) ∨ ∃ (n B : Nat), (x = .int (n : Int) ∧ n ≤ 200) ∧ (Grw s n ∧ nrm s < 2 ^ B ∧ B * n ≤ 400000) ∧ ∀ fs t, PwF fs t → Eqv t (npow s n) → P (.d (.ins A.c_Powers fs)) [])
theorem mono_conRa {A : Adr} : ConMono (conRa A) := fun cs P P2 Y Y2 hP hY ⟨s, v, x, hr, h, q⟩ => ⟨s, v, x, hr, h, q.elim (fun ⟨h1, h2⟩ => .inl ⟨h1, hY _ _ _ h2⟩) fun q => .inr (q.elim (fun ⟨i, h1, h2, h3⟩ => .inl ⟨i, h1, h2, hY _ _ _ h3⟩) fun q => .inr (q.elim (fun ⟨i, h1, h2, h3⟩ => .inl ⟨i, h1, h2, hY _ _ _ h3⟩) fun ⟨n, B, h1, h2, h3⟩ => .inr ⟨n, B, h1, h2, fun fs t h4 h5 => hP _ _ (h3 fs t h4 h5)⟩))⟩
def con_Powers_raised (A : Adr) : Con := conRa A
theorem mono_Powers_raised : ConMono (con_Powers_raised A) := mono_conRa
def RW (C : Addr) (s : Tms) (n : Nat) (v : DV) (m : Nat) (env : List Cell) : Prop := ∃ (a e : Nat) (X Z : Cell) (r qq : Tms), env = [.d v, .d (.int (m : Int)), X, Z] ∧ PwS C X r ∧ PwS C Z qq ∧ Eqv r (npow s a) ∧ (0 < m → Eqv qq (npow s e)) ∧ a + e * m = n
theorem var2 {C : Addr} {c0 c1 X Z : Cell} {r : Tms} {Q : DV → List Cell → Prop} (hX : PwS C X r) (h : ∀ fs X', PwF fs r → PwS C X' r → Q (.ins C fs) [c0, c1, X', Z]) : dVar 2 [c0, c1, X, Z] Q := by
  obtain ⟨fs, hf, rfl | rfl⟩ := hX
  · exact h fs _ hf ⟨fs, hf, .inr rfl⟩
  · exact h fs _ hf ⟨fs, hf, .inr rfl⟩
theorem var3 {C : Addr} {c0 c1 X Z : Cell} {r : Tms} {Q : DV → List Cell → Prop} (hX : PwS C Z r) (h : ∀ fs Z', PwF fs r → PwS C Z' r → Q (.ins C fs) [c0, c1, X, Z']) : dVar 3 [c0, c1, X, Z] Q := by
  obtain ⟨fs, hf, rfl | rfl⟩ := hX
  · exact h fs _ hf ⟨fs, hf, .inr rfl⟩
  · exact h fs _ hf ⟨fs, hf, .inr rfl⟩
theorem mul_fin {A : Adr} {Y : Addr → List (Str × DV) → List OC → Prop} {s : Tms} {n B a e : Nat} {fs gs : List (Str × DV)} {r qq : Tms} {P : Cell → Prop} (hrel : A.rel = relN [A.c_Powers]) (Gr : Grw s n) (hB : nrm s < 2 ^ B) (hBn : B * n ≤ 400000) (hf : PwF fs r) (hg : PwF gs qq) (er : Eqv r (npow s a)) (eq : Eqv qq (npow s e)) (hs : a + e ≤ n)
    (h : ∀ fs t, PwF fs t → Eqv t (npow s (a + e)) → P (.o false (.ins A.c_Powers fs))) : con_Powers_mul A [.d (.ins A.c_Powers fs), .d (.ins A.c_Powers gs)] (fun r _ => isO r ∧ P r) Y := by
  have big := pow_mul_ok Gr hB hBn hf.1 er hg.1 eq hs
  exact ⟨r, qq, _, _, _, _, hrel, ⟨rfl, ⟨fs, rfl, hf⟩, ⟨gs, rfl, hg⟩⟩, big.1, big.2, fun hs t h1 h2 => ⟨trivial, h hs t h1 (h2.trans ((prods_congr er eq).trans (by rw [npow_add]; exact Eqv.refl _)))⟩⟩
theorem raised_tail {A : Adr} {G : Addr → List (Str × DV) → List Cell → Prop} {D : EndsD} {s : Tms} {n B a e m : Nat} {v : DV} {X Z : Cell} {r qq : Tms} (hrel : A.rel = relN [A.c_Powers]) (Gr : Grw s n) (hB : nrm s < 2 ^ B) (hBn : B * n ≤ 400000) (hX : PwS A.c_Powers X r) (hZ : PwS A.c_Powers Z qq) (er : Eqv r (npow s a)) (eq : Eqv qq (npow s e)) (hs : a + (e + e) * (m / 2) = n)
    (h : ∀ env, RW A.c_Powers s n v (m / 2) env → D.nx env) : wSeq (wSet 1 (dCel (dFdiv (dVar 1) (dC (.int 2))))) (wSeq (wIf (DL.tGt (dVar 1) (dC (.int 0))) (wSeq (wSet 3 (dBinOO A.c_Powers (con_Powers_mul A) G (dVar 3) (dVar 3))) wNil) wNil) wNil) D [.d v, .d (.int (m : Int)), X, Z] := by
  refine seq_gen fun k1 hk1 => ?_
  simp (maxSteps := 1000000) only [wSet, dCel, dVar, dC, dOp2d, gI2, okSet, List.getElem?_cons_zero, List.getElem?_cons_succ, List.set_cons_zero, List.set_cons_succ, true_and, dNotInU, dIxU, wPutU, dListU, dDu, dBinOO, dNeO, dDisp1T, dDisp2T, gDictPT, gSortT, gMaxD, dMeth, dMake, isIns, isO, OC.u.injEq]
  refine ⟨⟨by decide, by decide⟩, ?_⟩
  subst hk1
  refine seq_gen fun k1 hk1 => ?_
  have em : (m : Int) / 2 = ((m / 2 : Nat) : Int) := by omega
  by_cases h0 : m / 2 = 0
  · simp (maxSteps := 1000000) only [wNil, wIf, dVar, dC, dCmp, gB2, List.getElem?_cons_zero, List.getElem?_cons_succ, dNotInU, dIxU, wPutU, dListU, dDu, dBinOO, dNeO, dDisp1T, dDisp2T, gDictPT, gSortT, gMaxD, dMeth, dMake, isIns, isO, OC.u.injEq]
    rw [if_neg (by rw [decide_eq_false (by omega)]; intro z; cases z)]
    subst hk1
    rw [em]
    exact h _ ⟨a, e, X, Z, r, qq, rfl, hX, hZ, er, fun z => absurd h0 (by omega), by rw [h0] at hs ⊢; omega⟩
  · simp (maxSteps := 1000000) only [wNil, wIf, dVar, dC, dCmp, gB2, List.getElem?_cons_zero, List.getElem?_cons_succ, dNotInU, dIxU, wPutU, dListU, dDu, dBinOO, dNeO, dDisp1T, dDisp2T, gDictPT, gSortT, gMaxD, dMeth, dMake, isIns, isO, OC.u.injEq]
    rw [if_pos (decide_eq_true (by omega))]
    refine seq_gen fun k2 hk2 => ?_
    unfold wSet dBinOO
    refine var3 hZ fun gs Z1 hg hZ1 => ?_
    refine var3 hZ1 fun gs2 Z2 hg2 hZ2 => ?_
    refine ⟨⟨rfl, rfl⟩, ?_⟩
    have le : e + e ≤ n := by
      have : (e + e) * 1 ≤ (e + e) * (m / 2) := Nat.mul_le_mul_left _ (by omega)
      omega
    refine mul_fin hrel Gr hB hBn hg hg2 eq eq le fun fs t h1 h2 => ?_
    refine ⟨?_, ?_⟩
    · obtain ⟨_, _, rfl | rfl⟩ := hZ2 <;> trivial
    subst hk2
    show k1 _
    subst hk1
    rw [em]
    exact h _ ⟨a, e + e, X, _, r, t, rfl, hX, ⟨fs, h1, .inl rfl⟩, er, fun _ => h2, hs⟩
theorem dat_Powers_raised : ∀ cs P Y, con_Powers_raised A cs P Y → runD 4 (wd_Powers_raised A fun C fs e => Y C fs (borsAt e (ownIx 0 cs))) cs P := by
  rintro cs P Y ⟨s, v, x, hrel, ⟨rfl, ⟨fs, rfl, hpw⟩⟩, q⟩
  unfold wd_Powers_raised runD
  refine seq_gen fun kk hk => ?_
  rcases q with ⟨hx, q⟩ | ⟨i, rfl, hi, q⟩ | ⟨i, rfl, hi, q⟩ | ⟨n, B, ⟨rfl, hn⟩, ⟨G, hB, hBn⟩, q⟩
  · simp (maxSteps := 1000000) only [wDrop, dVar, dC, dCall, bNil, bCons, DL.cellOf, DL.borIx, DL.putB, DL.allOwn, DL.borsAt, ownIx, parC, List.map_cons, List.map_nil, List.cons_append, List.nil_append, List.length_cons, List.length_nil, List.replicate_succ, List.replicate_zero, List.getElem?_cons_zero, List.getElem?_cons_succ, List.nodup_nil, true_and, and_true, Nat.reduceAdd, Nat.reduceSub, Nat.zero_add, dNotInU, dIxU, wPutU, dListU, dDu, dBinOO, dNeO, dDisp1T, dDisp2T, gDictPT, gSortT, gMaxD, dMeth, dMake, isIns, isO, OC.u.injEq, con_need_from, conNF]
    exact ⟨"n", x, 0, rfl, .inr (.inr ⟨hx, q⟩)⟩
  · simp (maxSteps := 1000000) only [wDrop, dVar, dC, dCall, bNil, bCons, DL.cellOf, DL.borIx, DL.putB, DL.allOwn, DL.borsAt, ownIx, parC, List.map_cons, List.map_nil, List.cons_append, List.nil_append, List.length_cons, List.length_nil, List.replicate_succ, List.replicate_zero, List.getElem?_cons_zero, List.getElem?_cons_succ, List.nodup_nil, true_and, and_true, Nat.reduceAdd, Nat.reduceSub, Nat.zero_add, dNotInU, dIxU, wPutU, dListU, dDu, dBinOO, dNeO, dDisp1T, dDisp2T, gDictPT, gSortT, gMaxD, dMeth, dMake, isIns, isO, OC.u.injEq, con_need_from, conNF]
    exact ⟨"n", .int i, 0, rfl, .inr (.inl ⟨i, rfl, hi, q⟩)⟩
  · simp (maxSteps := 1000000) only [wDrop, dVar, dC, dCall, bNil, bCons, DL.cellOf, DL.borIx, DL.putB, DL.allOwn, DL.borsAt, ownIx, parC, List.map_cons, List.map_nil, List.cons_append, List.nil_append, List.length_cons, List.length_nil, List.replicate_succ, List.replicate_zero, List.getElem?_cons_zero, List.getElem?_cons_succ, List.nodup_nil, true_and, and_true, Nat.reduceAdd, Nat.reduceSub, Nat.zero_add, dNotInU, dIxU, wPutU, dListU, dDu, dBinOO, dNeO, dDisp1T, dDisp2T, gDictPT, gSortT, gMaxD, dMeth, dMake, isIns, isO, OC.u.injEq, con_need_from, conNF]
    refine ⟨"n", .int i, 0, rfl, .inl ⟨i, rfl, by omega, ?_⟩⟩
    subst hk
    refine seq_gen fun kk hk => ?_
    simp (maxSteps := 1000000) only [wNil, wIf, dVar, dC, dCmp, gB2, DL.borsAt, ownIx, List.getElem?_cons_zero, List.getElem?_cons_succ, dNotInU, dIxU, wPutU, dListU, dDu, dBinOO, dNeO, dDisp1T, dDisp2T, gDictPT, gSortT, gMaxD, dMeth, dMake, isIns, isO, OC.u.injEq]
    rw [if_pos (decide_eq_true hi)]
    refine seq_gen fun kk hk => ?_
    simp (maxSteps := 1000000) only [dVar, dC, aNil, aCons, wRaise, List.cons_append, List.nil_append, List.length_cons, List.length_nil, List.getElem?_cons_zero, List.getElem?_cons_succ, true_and, Nat.reduceAdd, Nat.zero_add, dNotInU, dIxU, wPutU, dListU, dDu, dBinOO, dNeO, dDisp1T, dDisp2T, gDictPT, gSortT, gMaxD, dMeth, dMake, isIns, isO, OC.u.injEq, List.zip_cons_cons, List.zip_nil_left, List.reverse_cons, List.reverse_nil]
    exact q
  · simp (maxSteps := 1000000) only [wDrop, dVar, dC, dCall, bNil, bCons, DL.cellOf, DL.borIx, DL.putB, DL.allOwn, DL.borsAt, ownIx, parC, List.map_cons, List.map_nil, List.cons_append, List.nil_append, List.length_cons, List.length_nil, List.replicate_succ, List.replicate_zero, List.getElem?_cons_zero, List.getElem?_cons_succ, List.nodup_nil, true_and, and_true, Nat.reduceAdd, Nat.reduceSub, Nat.zero_add, dNotInU, dIxU, wPutU, dListU, dDu, dBinOO, dNeO, dDisp1T, dDisp2T, gDictPT, gSortT, gMaxD, dMeth, dMake, isIns, isO, OC.u.injEq, con_need_from, conNF]
    refine ⟨"n", .int n, 0, rfl, .inl ⟨n, rfl, by omega, ?_⟩⟩
    subst hk
    refine seq_gen fun kk hk => ?_
    simp (maxSteps := 1000000) only [wNil, wIf, dVar, dC, dCmp, gB2, DL.borsAt, ownIx, List.getElem?_cons_zero, List.getElem?_cons_succ, dNotInU, dIxU, wPutU, dListU, dDu, dBinOO, dNeO, dDisp1T, dDisp2T, gDictPT, gSortT, gMaxD, dMeth, dMake, isIns, isO, OC.u.injEq]
    rw [if_neg (by rw [decide_eq_false (by omega)]; intro z; cases z)]
    subst hk
    refine seq_gen fun kk hk => ?_
    simp (maxSteps := 1000000) only [wPar, dCel, dDat, dVar, dC, aNil, aCons, dTup, dLst, DL.borsAt, ownIx, okSet, Cell.frz, OC.frz, List.map_cons, List.map_nil, List.cons_append, List.nil_append, List.length_cons, List.length_nil, List.getElem?_cons_zero, List.getElem?_cons_succ, List.set_cons_zero, List.set_cons_succ, true_and, and_true, Nat.reduceAdd, Nat.zero_add, dNotInU, dIxU, wPutU, dListU, dDu, dBinOO, dNeO, dDisp1T, dDisp2T, gDictPT, gSortT, gMaxD, dMeth, dMake, isIns, isO, OC.u.injEq, con_Powers_init]
    refine ⟨by decide, by decide, true, _, _, one, ⟨rfl, .inl rfl, .cons ⟨d_ORIGIN, .inl (.inr rfl), .inl rfl⟩ .nil, by decide⟩, fun fs1 t1 h1 e1 => ?_⟩
    show kk _
    subst hk
    refine seq_gen fun kk hk => ?_
    refine ⟨RW A.c_Powers s n (.ins A.c_Powers fs), ⟨n, 0, 1, _, _, t1, s, rfl, ⟨fs1, h1, .inl rfl⟩, ⟨fs, hpw, .inr rfl⟩, e1, fun _ => by rw [npow_one]; exact Eqv.refl _, by omega⟩, fun m env ⟨a, e, X, Z, r, qq, he, hX, hZ, er, eq, hs⟩ => ?_⟩
    subst he
    by_cases h0 : m = 0
    · subst h0
      simp (maxSteps := 1000000) only [dVar, dC, dCmp, gB2, DL.borsAt, ownIx, List.getElem?_cons_zero, List.getElem?_cons_succ, dNotInU, dIxU, wPutU, dListU, dDu, dBinOO, dNeO, dDisp1T, dDisp2T, gDictPT, gSortT, gMaxD, dMeth, dMake, isIns, isO, OC.u.injEq]
      rw [if_neg (by decide)]
      subst hk
      refine seq_gen fun kk hk => ?_
      have ea : a = n := by omega
      subst ea
      obtain ⟨gs, hg, rfl | rfl⟩ := hX
      · exact q gs r hg er
      · exact q gs r hg er
    · have hc : decide ((0 : Int) < (m : Int)) = true := decide_eq_true (by omega)
      simp (maxSteps := 1000000) only [dVar, dC, dCmp, gB2, DL.borsAt, ownIx, List.getElem?_cons_zero, List.getElem?_cons_succ, if_true, dNotInU, dIxU, wPutU, dListU, dDu, dBinOO, dNeO, dDisp1T, dDisp2T, gDictPT, gSortT, gMaxD, dMeth, dMake, isIns, isO, OC.u.injEq, hc]
      clear hk
      unfold bd_Powers_raised_1
      have eq := eq (by omega)
      refine seq_gen fun k1 hk1 => ?_
      by_cases hm : m % 2 = 1
      · have hc : eqD (.int ((m : Int) % 2)) (.int 1) = true := by
          rw [show ((m : Int) % 2) = 1 by omega]
          rfl
        simp (maxSteps := 1000000) only [wNil, wIf, dVar, dC, dOp2d, gI2, dCmp, gEq, and_assoc, List.getElem?_cons_zero, List.getElem?_cons_succ, if_true, if_false, Bool.false_eq_true, dNotInU, dIxU, wPutU, dListU, dDu, dBinOO, dNeO, dDisp1T, dDisp2T, gDictPT, gSortT, gMaxD, dMeth, dMake, isIns, isO, OC.u.injEq, hc]
        refine ⟨by decide, ok_int 60 _, ok_int 60 _, ?_⟩
        refine seq_gen fun k2 hk2 => ?_
        unfold wSet dBinOO
        refine var2 hX fun gs X1 hg hX1 => ?_
        refine var3 hZ fun gs2 Z2 hg2 hZ2 => ?_
        refine ⟨⟨rfl, rfl⟩, ?_⟩
        have le : a + e ≤ n := by
          have : e * 1 ≤ e * m := Nat.mul_le_mul_left _ (by omega)
          omega
        refine mul_fin hrel G hB hBn hg hg2 er eq le fun fs t h1 h2 => ?_
        refine ⟨?_, ?_⟩
        · obtain ⟨_, _, rfl | rfl⟩ := hX1 <;> trivial
        subst hk2
        show k1 _
        subst hk1
        refine raised_tail hrel G hB hBn ⟨fs, h1, .inl rfl⟩ hZ2 h2 eq ?_ fun env hw => ⟨m / 2, by omega, hw⟩
        have : m = m / 2 + m / 2 + 1 := by omega
        rw [Nat.add_mul, ← Nat.mul_add, ← hs]
        conv => rhs; rw [this]
        rw [Nat.mul_add e (m / 2 + m / 2) 1]
        omega
      · have hc : eqD (.int ((m : Int) % 2)) (.int 1) = false := by
          rw [show ((m : Int) % 2) = 0 by omega]
          rfl
        simp (maxSteps := 1000000) only [wNil, wIf, dVar, dC, dOp2d, gI2, dCmp, gEq, and_assoc, List.getElem?_cons_zero, List.getElem?_cons_succ, if_false, Bool.false_eq_true, dNotInU, dIxU, wPutU, dListU, dDu, dBinOO, dNeO, dDisp1T, dDisp2T, gDictPT, gSortT, gMaxD, dMeth, dMake, isIns, isO, OC.u.injEq, hc]
        refine ⟨by decide, ok_int 60 _, ok_int 60 _, ?_⟩
        subst hk1
        refine raised_tail hrel G hB hBn hX hZ er eq ?_ fun env hw => ⟨m / 2, by omega, hw⟩
        have : m = m / 2 + m / 2 := by omega
        rw [Nat.add_mul, ← Nat.mul_add]
        rw [← this]
        exact hs
theorem ok_Powers_raised (T : Txt K mg A) {TB : List (Addr × Str)} : FnOk P w K mg base (L2.CX P w) 6 A.f_Powers_raised A.fd_Powers_raised ["self", "n"] (SpD K TB 0 (con_Powers_raised A)) :=
  okD (c := _) (wd := wd_Powers_raised A) T.F_Powers_raised sc_Powers_raised (fun cs P Y ⟨_, _, _, _, ⟨h, _⟩, _⟩ => by rw [h]; rfl) (by exact Nat.le_of_ble_eq_true rfl) (fun cdv A1 outer s H E G M hM hr => (psCons (psExpr (pcCall mono_need_from (ok_need_from T) (hr.mono (by decide)) passD (by rfl) T.mg_need_from T.F_need_from.2 (b_need_from T) (pbCons pdStr (pbCons (pdVar 1) (pbCons pdInt pbNil))))) (psCons (psIf (ptGt (pdVar 1) (pdGlobI (by rfl) T.mg_MOST)) (psCons (psRaise rfl takesD T.er_TooLarge (by decide) (eok_TooLarge T) (hr.mono (by decide)) (b_TooLarge_init T) (by rfl) T.mg_TooLarge (paCons pdStr (paCons (pdVar 1) (paCons (pdGlobI (by rfl) T.mg_MOST) paNil)))) psNil) psNil) (psCons (psPar (i := 2) (j := 3) sc_Powers_raised.nd rfl rfl (by decide) rfl rfl (pcMake mono_Powers_init T.mk_Powers (ok_Powers_init T) hret_Powers_init (hr.mono (by decide)) passD (by rfl) T.mg_Powers (b_Powers_init T) (.nil) (fun _ => .nil) (paCons (PEc.dat (pcLst (paCons (pdTup (paCons (pdGlob (by rfl) T.mg_ORIGIN (by exact rfl) T.h_ORIGIN) (paCons pdInt paNil))) paNil))) paNil)) (PEd.cel (pdVar 0)) rfl) (psCons (psWhile ownD (ptGt (pdVar 1) pdInt) (psCons (c1 := 0) (c2 := 0) (PSd.le (c' := 0) (psIf (ptEq hr.units (pdMod (pdVar 1) pdInt) pdInt) (psCons (psSet (i := 2) sc_Powers_raised.nd rfl (by first | exact Or.inl rfl | exact Or.inr rfl) (pcBinOO mono_Powers_mul (numB_ok T.nb_Powers) (ok_Powers_mul T) (hr.mono (by decide)) (du_mul T.me_Powers___mul__.at_) T.me_Powers___mul__.fn (b_Powers_mul T) passD (pdVar 2) (pdVar 3))) psNil) psNil) (Nat.le_of_ble_eq_true rfl)) (psCons (c1 := 0) (c2 := 0) (PSd.le (c' := 0) (psSet (i := 1) sc_Powers_raised.nd rfl (by first | exact Or.inl rfl | exact Or.inr rfl) (PEd.cel (pdFdiv (pdVar 1) pdInt))) (Nat.le_of_ble_eq_true rfl)) (psCons (c1 := 0) (c2 := 0) (PSd.le (c' := 0) (psIf (ptGt (pdVar 1) pdInt) (psCons (psSet (i := 3) sc_Powers_raised.nd rfl (by first | exact Or.inl rfl | exact Or.inr rfl) (pcBinOO mono_Powers_mul (numB_ok T.nb_Powers) (ok_Powers_mul T) (hr.mono (by decide)) (du_mul T.me_Powers___mul__.at_) T.me_Powers___mul__.fn (b_Powers_mul T) passD (pdVar 3) (pdVar 3))) psNil) psNil) (Nat.le_of_ble_eq_true rfl)) psNil)))) (psCons (psRet (PEd.cel (pdVar 2))) psNil)))))) dat_Powers_raised
end
end K13
set_option maxRecDepth 100000
set_option maxHeartbeats 4000000
namespace K13
open PySem PySem.Spec PyProof.Rows L2 DL LamX LTX
section
variable {P : Program} {w : World} {K : PySem.W.Frag} {mg : Str → Option Value} {base : Heap} {A : Adr}
/-! ### Powers.part_at -/
def wd_Powers_part_at (A : Adr) (G : Addr → List (Str × DV) → List Cell → Prop) : WS := (wSeq (wDrop (dCall (con_need_exponents A) G (bCons (dVar 1) bNil))) (wSeq (wSet 2 (dLc [3, 4] (iData (dFld A.c_Powers "terms" (dPeek 0))) (gT 2 (gsCons (gN 3) (gsCons (gN 4) gsNil))) (tEq (dVar 3) (dDat (dOp1 gTuple (dPeek 1)))) (dVar 4))) (wSeq (wRet (dIf (tGt (dDat (dOp1 gLen (dPeek 2))) (dC (.int 0))) (dCel (dIxN 2 (dC (.int 0)))) (dCel (dC (.int 0))))) wNil)))
def conPA (A : Adr) : Con := fun cs P _ => ∃ t v x k, (cs = [.d v, .d x] ∧ PwD A.c_Powers v t ∧ KeyD x k) ∧ P (.d (.int (cf t k))) []
theorem mono_conPA {A : Adr} : ConMono (conPA A) := fun cs P P2 Y Y2 hP hY ⟨t, v, x, k, h, q⟩ => ⟨t, v, x, k, h, hP _ _ q⟩
def con_Powers_part_at (A : Adr) : Con := conPA A
theorem mono_Powers_part_at : ConMono (con_Powers_part_at A) := mono_conPA
theorem key_eq {x y : DV} {a b : K3} (hx : KeyD x a) (hy : KeyD y b) : eqD x y = decide (a = b) ∧ x.ok 60 = true := by
  have e : (decide (a = b)) = (decide (a.1 = b.1) && (decide (a.2.1 = b.2.1) && decide (a.2.2 = b.2.2))) := by
    by_cases h : a = b
    · subst h; simp
    · rw [decide_eq_false h]
      by_cases h1 : a.1 = b.1
      · by_cases h2 : a.2.1 = b.2.1
        · by_cases h3 : a.2.2 = b.2.2
          · exact absurd (k3_ext h1 h2 h3) h
          · simp [h3]
        · simp [h2]
      · simp [h1]
  rw [e]
  rcases hx with rfl | rfl <;> rcases hy with rfl | rfl <;> (unfold eqD k3v DV.py pyAll; refine ⟨?_, by rfl⟩; simp [pyAll, DV.py, PyData.eqv, PyData.eqvAll]; rfl)
theorem found_ok {t : Tms} (hc : Can t) (k : K3) {xs : List Tri} (hx : xs.map (·.2) = t) : (xs.filter (fun x => decide (x.2.1 = k))).map (fun x => DV.int x.2.2) = [] ∧ cf t k = 0 ∨ ∃ r, (xs.filter (fun x => decide (x.2.1 = k))).map (fun x => DV.int x.2.2) = .int (cf t k) :: r := by
  cases h : xs.filter (fun x => decide (x.2.1 = k)) with
  | nil =>
    refine .inl ⟨rfl, cf_none fun p hp e => ?_⟩
    rw [← hx] at hp
    obtain ⟨x, hm, rfl⟩ := List.mem_map.mp hp
    have : x ∈ xs.filter (fun x => decide (x.2.1 = k)) := List.mem_filter.mpr ⟨hm, decide_eq_true e⟩
    rw [h] at this
    cases this
  | cons x r =>
    refine .inr ⟨r.map fun x => DV.int x.2.2, ?_⟩
    have hm : x ∈ xs.filter (fun x => decide (x.2.1 = k)) := by rw [h]; exact List.mem_cons_self
    obtain ⟨m1, m2⟩ := List.mem_filter.mp hm
    have e := of_decide_eq_true m2
    have := cf_mem (can_nodup hc) (show x.2 ∈ t from hx ▸ List.mem_map_of_mem m1)
    rw [e] at this
    rw [List.map_cons, this]
theorem dat_Powers_part_at : ∀ cs P Y, con_Powers_part_at A cs P Y → runD 5 (wd_Powers_part_at A fun C fs e => Y C fs (borsAt e (ownIx 0 cs))) cs P := by
  rintro cs P Y ⟨t, v, x, k, ⟨rfl, ⟨fs, rfl, hc, ts, rs, rfl, ht⟩, hx⟩, q⟩
  obtain ⟨xs, rfl, et, hxs⟩ := ht.un
  unfold wd_Powers_part_at runD
  refine seq_gen fun kk hk => ?_
  simp (maxSteps := 1000000) only [wDrop, dVar, dCall, bNil, bCons, DL.cellOf, DL.borIx, DL.putB, DL.allOwn, DL.borsAt, ownIx, parC, List.map_cons, List.map_nil, List.cons_append, List.nil_append, List.length_cons, List.length_nil, List.replicate_succ, List.replicate_zero, List.getElem?_cons_zero, List.getElem?_cons_succ, List.nodup_nil, true_and, and_true, Nat.reduceAdd, Nat.reduceSub, Nat.zero_add, dNotInU, dIxU, wPutU, dListU, dDu, dBinOO, dNeO, dDisp1T, dDisp2T, gDictPT, gSortT, gMaxD, dMeth, dMake, isIns, isO, OC.u.injEq]
  unfold con_need_exponents conNE
  refine ⟨x, k, ⟨rfl, .inl hx⟩, ?_⟩
  show kk _
  subst hk
  refine seq_gen fun kk hk => ?_
  simp (maxSteps := 1000000) only [wSet, iData, dI_tup, dLc, optP, dPeek, dFld, okSet, Cell.view, List.getElem?_cons_zero, Option.bind_some, true_and, dNotInU, dIxU, wPutU, dListU, dDu, dBinOO, dNeO, dDisp1T, dDisp2T, gDictPT, gSortT, gMaxD, dMeth, dMake, isIns, isO, OC.u.injEq, fl_terms]
  refine ⟨fun v hv c hc => by
    simp only [List.mem_cons, List.not_mem_nil, or_false] at hv
    rcases hv with rfl | rfl <;> (cases hc; rfl), ?_⟩
  refine lc_filter (e := triV) (fun y => decide (y.2.1 = k)) (fun y => .int y.2.2) (E0 := [.d (.ins A.c_Powers [("terms", .tup (xs.map triV)), ("reach", rs)]), .d x, .un, .un, .un]) xs [] _ rfl (fun y hy Q' Q2 h1 h2 => ?_) (fun e he => ?_)
  · have ho : ∀ z : DV, KeyD z k → eqD y.1 z = decide (y.2.1 = k) ∧ z.ok 60 = true := fun z hz => ⟨(key_eq (hxs y hy) hz).1, (key_eq hz hz).2⟩
    have oy := (key_eq (hxs y hy) (hxs y hy)).2
    unfold triV
    rcases hx with rfl | rfl
    · have h0 := ho _ (.inl rfl)
      simp (maxSteps := 1000000) only [gN, gsNil, gsCons, gT, dDat, dVar, dCmp, gEq, optP, dPeek, dOp1, gTuple, and_assoc, okSet, Cell.view, Cell.frz, OC.frz, List.length_cons, List.length_nil, List.getElem?_cons_zero, List.getElem?_cons_succ, List.set_cons_zero, List.set_cons_succ, Option.bind_some, true_and, if_false, Nat.reduceAdd, Nat.zero_add, Bool.false_eq_true, dNotInU, dIxU, wPutU, dListU, dDu, dBinOO, dNeO, dDisp1T, dDisp2T, gDictPT, gSortT, gMaxD, dMeth, dMake, isIns, isO, OC.u.injEq]
      refine ⟨oy, h0.2, ?_⟩
      rw [h0.1]
      refine ite_dec (fun h => h1 (decide_eq_true h) _ rfl) (fun h => h2 (decide_eq_false h) _ rfl)
    · have h0 := ho _ (.inr rfl)
      simp (maxSteps := 1000000) only [gN, gsNil, gsCons, gT, dDat, dVar, dCmp, gEq, optP, dPeek, dOp1, gTuple, and_assoc, okSet, Cell.view, Cell.frz, OC.frz, List.length_cons, List.length_nil, List.getElem?_cons_zero, List.getElem?_cons_succ, List.set_cons_zero, List.set_cons_succ, Option.bind_some, true_and, if_false, Nat.reduceAdd, Nat.zero_add, Bool.false_eq_true, dNotInU, dIxU, wPutU, dListU, dDu, dBinOO, dNeO, dDisp1T, dDisp2T, gDictPT, gSortT, gMaxD, dMeth, dMake, isIns, isO, OC.u.injEq]
      refine ⟨oy, h0.2, ?_⟩
      rw [h0.1]
      refine ite_dec (fun h => h1 (decide_eq_true h) _ rfl) (fun h => h2 (decide_eq_false h) _ rfl)
  rw [List.nil_append, ← back_wipe, he]
  simp (maxSteps := 1000000) only [List.getElem?_cons_zero, List.getElem?_cons_succ, List.set_cons_zero, List.set_cons_succ, List.getD_cons_zero, List.getD_cons_succ, true_and, backD]
  subst hk
  refine seq_gen fun kk hk => ?_
  rcases found_ok hc k et with ⟨e0, e1⟩ | ⟨r, e1⟩
  · rw [e0]
    simp (maxSteps := 1000000) only [wRet, dCel, dDat, dC, dCmp, gB2, ln_lst, dIxN, ixD, optP, dPeek, dOp1, gLen, dIf, DL.borsAt, ownIx, Cell.view, Cell.frz, OC.flat, List.length_nil, List.getElem?_cons_zero, List.getElem?_cons_succ, Option.bind_some, true_and, dNotInU, dIxU, wPutU, dListU, dDu, dBinOO, dNeO, dDisp1T, dDisp2T, gDictPT, gSortT, gMaxD, dMeth, dMake, isIns, isO, OC.u.injEq]
    rw [if_neg (by decide), ← e1]
    exact q
  · rw [e1]
    simp (maxSteps := 1000000) only [wRet, dCel, dDat, dC, dCmp, gB2, ln_lst, dIxN, ixD, optP, dPeek, dOp1, gLen, dIf, DL.borsAt, ownIx, Cell.view, Cell.frz, OC.flat, List.length_cons, List.getElem?_cons_zero, List.getElem?_cons_succ, Option.bind_some, true_and, dNotInU, dIxU, wPutU, dListU, dDu, dBinOO, dNeO, dDisp1T, dDisp2T, gDictPT, gSortT, gMaxD, dMeth, dMake, isIns, isO, OC.u.injEq]
    rw [if_pos (decide_eq_true (by omega))]
    have : atI (DV.int (cf t k) :: r) 0 = some (.int (cf t k)) := by
      unfold atI ixN
      rw [if_pos (by omega), if_pos (by rw [List.length_cons]; omega)]
      rfl
    rw [this]
    exact q
theorem ok_Powers_part_at (T : Txt K mg A) {TB : List (Addr × Str)} : FnOk P w K mg base (L2.CX P w) 4 A.f_Powers_part_at A.fd_Powers_part_at ["self", "exponents"] (SpD K TB 0 (con_Powers_part_at A)) :=
  okD (c := _) (wd := wd_Powers_part_at A) T.F_Powers_part_at sc_Powers_part_at (fun cs P Y ⟨_, _, _, _, ⟨h, _⟩, _⟩ => by rw [h]; rfl) (by exact Nat.le_of_ble_eq_true rfl) (fun cdv A1 outer s H E G M hM hr => (psCons (psExpr (pcCall mono_need_exponents (ok_need_exponents T) (hr.mono (by decide)) passD (by rfl) T.mg_need_exponents T.F_need_exponents.2 (b_need_exponents T) (pbCons (pdVar 1) pbNil))) (psCons (psSetLc (own := [("place", 3), ("number", 4)]) sc_Powers_part_at.nd (k := 2) rfl rfl rfl (piSeq (pdFld T.cl_Powers T.na_Powers_terms (pvName 0))) (blkOk_by (by rfl)) (fun _ _ _ _ _ => (pgT (pgsCons (pgN (i := 3) sc_Powers_part_at.nd rfl (by first | exact Or.inl rfl | exact Or.inr rfl)) (pgsCons (pgN (i := 4) sc_Powers_part_at.nd rfl (by first | exact Or.inl rfl | exact Or.inr rfl)) pgsNil)))) (fun _ _ _ _ _ => (ptsOne (ptEq hr.units (pdVar 3) (PEc.dat (pcTuple (by rfl) T.no_tuple (pvName 1)))))) (fun _ _ _ _ _ => (pdVar 4)) s (by decide)) (psCons (psRet (pcIf (ptGt (PEc.dat (pcLen (by rfl) T.no_len (pvName 2))) pdInt) (PEd.cel (pdIxN 2 (u1 hr) pdInt (fun _ _ => rfl))) (PEd.cel pdInt))) psNil)))) dat_Powers_part_at
end
end K13
set_option maxRecDepth 100000
set_option maxHeartbeats 4000000
namespace K13
open PySem PySem.Spec PyProof.Rows L2 DL LamX LTX
section
variable {P : Program} {w : World} {K : PySem.W.Frag} {mg : Str → Option Value} {base : Heap} {A : Adr}
/-! ### Powers.constant -/
def wd_Powers_constant (A : Adr) (G : Addr → List (Str × DV) → List Cell → Prop) : WS := (wSeq (wRet (dMeth A.c_Powers "part_at" (con_Powers_part_at A) G [] (dVar 0) (aCons (dC d_ORIGIN) aNil))) wNil)
def conKo (A : Adr) : Con := fun cs P _ => ∃ t v, (cs = [.d v] ∧ PwD A.c_Powers v t) ∧ P (.d (.int (cf t (0, 0, 0)))) []
theorem mono_conKo {A : Adr} : ConMono (conKo A) := fun cs P P2 Y Y2 hP hY ⟨t, v, h, q⟩ => ⟨t, v, h, hP _ _ q⟩
def con_Powers_constant (A : Adr) : Con := conKo A
theorem mono_Powers_constant : ConMono (con_Powers_constant A) := mono_conKo
theorem dat_Powers_constant : ∀ cs P Y, con_Powers_constant A cs P Y → runD 1 (wd_Powers_constant A fun C fs e => Y C fs (borsAt e (ownIx 0 cs))) cs P := by
  rintro cs P Y ⟨t, v, ⟨rfl, ⟨fs, rfl, hf⟩⟩, q⟩
  unfold wd_Powers_constant runD
  refine seq_gen fun kk hk => ?_
  have h0 : fs.lookup ("part_at" : Str) = none := by
    obtain ⟨_, ts, rs, rfl, _⟩ := hf
    rfl
  simp (maxSteps := 1000000) only [wRet, dVar, dC, aNil, aCons, DL.borsAt, ownIx, parC, List.map_cons, List.map_nil, List.cons_append, List.nil_append, List.length_cons, List.length_nil, List.replicate_zero, List.getElem?_cons_zero, true_and, Nat.zero_add, Nat.sub_self, dNotInU, dIxU, wPutU, dListU, dDu, dBinOO, dNeO, dDisp1T, dDisp2T, gDictPT, gSortT, gMaxD, dMeth, dMake, isIns, isO, OC.u.injEq]
  refine ⟨h0, ?_⟩
  unfold con_Powers_part_at conPA
  exact ⟨t, _, d_ORIGIN, (0, 0, 0), ⟨rfl, ⟨fs, rfl, hf⟩, .inr rfl⟩, q⟩
theorem ok_Powers_constant (T : Txt K mg A) {TB : List (Addr × Str)} : FnOk P w K mg base (L2.CX P w) 5 A.f_Powers_constant A.fd_Powers_constant ["self"] (SpD K TB 0 (con_Powers_constant A)) :=
  okD (c := _) (wd := wd_Powers_constant A) T.F_Powers_constant sc_Powers_constant (fun cs P Y ⟨_, _, ⟨h, _⟩, _⟩ => by rw [h]; rfl) (by exact Nat.le_of_ble_eq_true rfl) (fun cdv A1 outer s H E G M hM hr => (psCons (psRet (pcMeth mono_Powers_part_at T.cl_Powers T.me_Powers_part_at (ok_Powers_part_at T) (hr.mono (by decide)) passD (b_Powers_part_at T) (.nil) (fun _ => .nil) (pdVar 0) (paCons (pdGlob (by rfl) T.mg_ORIGIN (by exact rfl) T.h_ORIGIN) paNil))) psNil)) dat_Powers_constant
end
end K13
set_option maxRecDepth 100000
set_option maxHeartbeats 4000000
namespace K13
open PySem PySem.Spec PyProof.Rows L2 DL LamX LTX
section
variable {P : Program} {w : World} {K : PySem.W.Frag} {mg : Str → Option Value} {base : Heap} {A : Adr}
/-! ### Powers.parts -/
def wd_Powers_parts (A : Adr) (G : Addr → List (Str × DV) → List Cell → Prop) : WS := (wSeq (wDrop (dCall (con_need_from A) G (bCons (dC (.str "p")) (bCons (dVar 1) (bCons (dC (.int 1)) bNil))))) (wSeq (wSet 2 (dLc [3] (iData (dFld A.c_Powers "terms" (dPeek 0))) (gN 3) (dAsB (dDat (dOp1 (gBls fun bs => bs.all id) (dVw (dLc [4] (iData (dIxN 3 (dC (.int 0)))) (gN 4) dYes (dBl (tEq (dMod (dVar 4) (dVar 1)) (dC (.int 0))))))))) (dVar 3))) (wSeq (wRet (dMake A.c_Powers (con_Powers_init A) G [] (aCons (dDat (dLc [5, 6] (iData (dVar 2)) (gT 2 (gsCons (gN 5) (gsCons (gN 6) gsNil))) dYes (dTup (aCons (dDat (dOp1 gTuple (dVw (dLc [4] (iData (dVar 5)) (gN 4) dYes (dFdiv (dVar 4) (dVar 1)))))) (aCons (dVar 6) aNil))))) aNil))) wNil)))
def conPt (A : Adr) : Con := fun cs P _ => ∃ (t : Tms) (v : DV) (p : Nat), (cs = [.d v, .d (.int (p : Int))] ∧ PwD A.c_Powers v t) ∧ (0 < p ∧ p ≤ 1000 ∧ t.length < LINE) ∧ ∀ fs u, PwF fs u → Eqv u (ptT p t) → P (.o false (.ins A.c_Powers fs)) []
theorem mono_conPt {A : Adr} : ConMono (conPt A) := fun cs P P2 Y Y2 hP hY ⟨t, v, p, h, h2, q⟩ => ⟨t, v, p, h, h2, fun fs u a b => hP _ _ (q fs u a b)⟩
def con_Powers_parts (A : Adr) : Con := conPt A
theorem mono_Powers_parts : ConMono (con_Powers_parts A) := mono_conPt
theorem itm_map {f : Tri → DV} {g : K3 × Int → K3 × Int} : ∀ {xs : List Tri}, (∀ x ∈ xs, ItemD (f x) (g x.2)) → ItmD (xs.map f) ((xs.map (·.2)).map g)
  | [], _ => .nil
  | x :: xs, h => .cons (h x List.mem_cons_self) (itm_map fun y hy => h y (List.mem_cons_of_mem _ hy))
theorem dat_Powers_parts : ∀ cs P Y, con_Powers_parts A cs P Y → runD 7 (wd_Powers_parts A fun C fs e => Y C fs (borsAt e (ownIx 0 cs))) cs P := by
  rintro cs P Y ⟨t, v, p, ⟨rfl, ⟨fs, rfl, hc, ts, rs, rfl, ht⟩⟩, ⟨hp, hp2, hl⟩, q⟩
  obtain ⟨xs, rfl, et, hxs⟩ := ht.un
  unfold wd_Powers_parts runD
  refine seq_gen fun kk hk => ?_
  simp (maxSteps := 1000000) only [wDrop, dVar, dC, dCall, bNil, bCons, DL.cellOf, DL.borIx, DL.putB, DL.allOwn, DL.borsAt, ownIx, parC, List.map_cons, List.map_nil, List.cons_append, List.nil_append, List.length_cons, List.length_nil, List.replicate_succ, List.replicate_zero, List.getElem?_cons_zero, List.getElem?_cons_succ, List.nodup_nil, true_and, and_true, Nat.reduceAdd, Nat.reduceSub, Nat.zero_add, dNotInU, dIxU, wPutU, dListU, dDu, dBinOO, dNeO, dDisp1T, dDisp2T, gDictPT, gSortT, gMaxD, dMeth, dMake, isIns, isO, OC.u.injEq]
  unfold con_need_from conNF
  refine ⟨"p", .int p, 1, rfl, .inl ⟨p, rfl, by omega, ?_⟩⟩
  show kk _
  subst hk
  refine seq_gen fun kk hk => ?_
  simp (maxSteps := 1000000) only [wSet, iData, dI_tup, dLc, optP, dPeek, dFld, okSet, Cell.view, List.getElem?_cons_zero, Option.bind_some, true_and, dNotInU, dIxU, wPutU, dListU, dDu, dBinOO, dNeO, dDisp1T, dDisp2T, gDictPT, gSortT, gMaxD, dMeth, dMake, isIns, isO, OC.u.injEq, fl_terms]
  refine ⟨fun v hv c hc => by cases List.mem_singleton.mp hv; cases hc; rfl, ?_⟩
  refine lc_filter (e := triV) (fun y => divs p y.2.1) triV (E0 := [.d (.ins A.c_Powers [("terms", .tup (xs.map triV)), ("reach", rs)]), .d (.int p), .un, .un, .un, .un, .un]) xs [] _ rfl (fun y hy Q' Q2 h1 h2 => ?_) (fun e he => ?_)
  · obtain ⟨y1, yk, yn⟩ := y
    have hk := hxs _ hy
    dsimp only at hk h1 h2 ⊢
    have e1 : triV (y1, yk, yn) = .tup [y1, .int yn] := rfl
    rw [e1] at h1 ⊢
    have all : ∀ (b : List DV) (c3 : DV) (Q : List DV → List Cell → Prop), b = k3v yk → (∀ e, wipeD e [4] = [.d (.ins A.c_Powers [("terms", .tup (xs.map triV)), ("reach", rs)]), .d (.int p), .un, .d c3, .un, .un, .un] → Q [.bl (decide (yk.1 % (p : Int) = 0)), .bl (decide (yk.2.1 % (p : Int) = 0)), .bl (decide (yk.2.2 % (p : Int) = 0))] e) →
        goLc [4] (gN 4) dYes (dBl (tEq (dMod (dVar 4) (dVar 1)) (dC (DV.int 0)))) Q b [] [.d (.ins A.c_Powers [("terms", .tup (xs.map triV)), ("reach", rs)]), .d (.int p), .un, .d c3, .un, .un, .un] := by
      rintro b c3 Q rfl hQ
      refine lc_map (e := DV.int) (fun i => .bl (decide (i % (p : Int) = 0))) (E0 := [.d (.ins A.c_Powers [("terms", .tup (xs.map triV)), ("reach", rs)]), .d (.int p), .un, .d c3, .un, .un, .un]) [yk.1, yk.2.1, yk.2.2] [] _ rfl (fun i hi Q3 hq3 => ?_) (fun e he => hQ e he)
      simp (maxSteps := 1000000) only [gN, dVar, dC, dOp2d, gI2, dCmp, dBl, gEq, and_assoc, okSet, List.getElem?_cons_zero, List.getElem?_cons_succ, List.set_cons_zero, List.set_cons_succ, true_and, if_false, Bool.false_eq_true, dNotInU, dIxU, wPutU, dListU, dDu, dBinOO, dNeO, dDisp1T, dDisp2T, gDictPT, gSortT, gMaxD, dMeth, dMake, isIns, isO, OC.u.injEq]
      refine ⟨by omega, ok_int 60 _, ok_int 60 _, ?_⟩
      rw [eqD_int]
      exact hq3 _ rfl
    have hd : ([decide (yk.1 % (p : Int) = 0), decide (yk.2.1 % (p : Int) = 0), decide (yk.2.2 % (p : Int) = 0)] : List Bool).all id = divs p yk := by
      unfold divs
      simp
    rcases hk with rfl | rfl
    all_goals
      simp (maxSteps := 1000000) only [gN, dDat, dVar, dC, dAsB, iData, dI_tup, dI_ktup, dLc, dIxN, ixD, optP, dVw, dOp1, gBls, okSet, Cell.view, Cell.frz, OC.frz, OC.flat, List.getElem?_cons_zero, List.getElem?_cons_succ, List.set_cons_zero, List.set_cons_succ, Option.bind_some, true_and, dNotInU, dIxU, wPutU, dListU, dDu, dBinOO, dNeO, dDisp1T, dDisp2T, gDictPT, gSortT, gMaxD, dMeth, dMake, isIns, isO, OC.u.injEq, at20]
      refine ⟨fun v hv c hc => by cases List.mem_singleton.mp hv; cases hc; rfl, ?_⟩
      refine all _ _ _ rfl fun e he => ?_
      rw [← back_wipe, he]
      simp (maxSteps := 1000000) only [List.getElem?_cons_zero, List.getElem?_cons_succ, List.set_cons_zero, List.set_cons_succ, List.getD_cons_zero, List.getD_cons_succ, Option.map_some, dNotInU, dIxU, wPutU, dListU, dDu, dBinOO, dNeO, dDisp1T, dDisp2T, gDictPT, gSortT, gMaxD, dMeth, dMake, isIns, isO, OC.u.injEq, backD, blsOf]
      rw [hd]
      cases hv : divs p yk with
      | true =>
        rw [if_pos rfl]
        exact h1 hv _ rfl
      | false =>
        rw [if_neg (by decide)]
        exact h2 hv _ rfl
  rw [List.nil_append, ← back_wipe, he]
  simp (maxSteps := 1000000) only [List.getElem?_cons_zero, List.getElem?_cons_succ, List.set_cons_zero, List.set_cons_succ, List.getD_cons_zero, List.getD_cons_succ, true_and, backD]
  subst hk
  refine seq_gen fun kk hk => ?_
  generalize hxs' : xs.filter (fun y => divs p y.2.1) = xs'
  have hx2 : ∀ y ∈ xs', KeyD y.1 y.2.1 := fun y hy => hxs y (by rw [← hxs'] at hy; exact (List.mem_filter.mp hy).1)
  have ept : ptT p t = (xs'.map (·.2)).map fun q => (quoK p q.1, q.2) := by
    unfold ptT
    rw [← et, List.filter_map, ← hxs']
    rfl
  simp (maxSteps := 1000000) only [wRet, dDat, dVar, iData, dI_lst, dLc, aNil, aCons, DL.borsAt, ownIx, Cell.frz, OC.frz, List.map_cons, List.map_nil, List.cons_append, List.nil_append, List.getElem?_cons_zero, List.getElem?_cons_succ, List.set_cons_zero, List.set_cons_succ, dNotInU, dIxU, wPutU, dListU, dDu, dBinOO, dNeO, dDisp1T, dDisp2T, gDictPT, gSortT, gMaxD, dMeth, dMake, isIns, isO, OC.u.injEq]
  refine ⟨fun v hv c hc => by
    simp only [List.mem_cons, List.not_mem_nil, or_false] at hv
    rcases hv with rfl | rfl <;> (cases hc; rfl), ?_⟩
  refine lc_map (e := triV) (fun y => .tup [.tup (k3v (quoK p y.2.1)), .int y.2.2]) (E0 := [.d (.ins A.c_Powers [("terms", .tup (xs.map triV)), ("reach", rs)]), .d (.int p), .d (.lst (xs'.map triV)), .un, .un, .un, .un]) xs' [] _ rfl (fun y hy Q' hq => ?_) (fun e he => ?_)
  · obtain ⟨y1, yk, yn⟩ := y
    have hk := hx2 _ hy
    dsimp only at hk hq ⊢
    have e1 : triV (y1, yk, yn) = .tup [y1, .int yn] := rfl
    rw [e1]
    have quo : ∀ (b : List DV) (c5 c6 : DV) (Q : List DV → List Cell → Prop), b = k3v yk → (∀ e, wipeD e [4] = [.d (.ins A.c_Powers [("terms", .tup (xs.map triV)), ("reach", rs)]), .d (.int p), .d (.lst (xs'.map triV)), .un, .un, .d c5, .d c6] → Q [.int (yk.1 / (p : Int)), .int (yk.2.1 / (p : Int)), .int (yk.2.2 / (p : Int))] e) →
        goLc [4] (gN 4) dYes (dFdiv (dVar 4) (dVar 1)) Q b [] [.d (.ins A.c_Powers [("terms", .tup (xs.map triV)), ("reach", rs)]), .d (.int p), .d (.lst (xs'.map triV)), .un, .un, .d c5, .d c6] := by
      rintro b c5 c6 Q rfl hQ
      refine lc_map (e := DV.int) (fun i => .int (i / (p : Int))) (E0 := [.d (.ins A.c_Powers [("terms", .tup (xs.map triV)), ("reach", rs)]), .d (.int p), .d (.lst (xs'.map triV)), .un, .un, .d c5, .d c6]) [yk.1, yk.2.1, yk.2.2] [] _ rfl (fun i hi Q3 hq3 => ?_) (fun e he => hQ e he)
      simp (maxSteps := 1000000) only [gN, dVar, dOp2d, gI2, okSet, List.getElem?_cons_zero, List.getElem?_cons_succ, List.set_cons_zero, List.set_cons_succ, true_and, dNotInU, dIxU, wPutU, dListU, dDu, dBinOO, dNeO, dDisp1T, dDisp2T, gDictPT, gSortT, gMaxD, dMeth, dMake, isIns, isO, OC.u.injEq]
      exact ⟨⟨by omega, log_small (by omega)⟩, hq3 _ rfl⟩
    rcases hk with rfl | rfl
    all_goals
      simp (maxSteps := 1000000) only [gN, gsNil, gsCons, gT, dDat, dVar, iData, dI_tup, dI_ktup, dLc, optP, dVw, dOp1, gTuple, aNil, aCons, dTup, okSet, Cell.view, Cell.frz, OC.frz, OC.flat, List.length_cons, List.length_nil, List.getElem?_cons_zero, List.getElem?_cons_succ, List.set_cons_zero, List.set_cons_succ, true_and, Nat.reduceAdd, Nat.zero_add, dNotInU, dIxU, wPutU, dListU, dDu, dBinOO, dNeO, dDisp1T, dDisp2T, gDictPT, gSortT, gMaxD, dMeth, dMake, isIns, isO, OC.u.injEq]
      refine ⟨fun v hv c hc => by cases List.mem_singleton.mp hv; cases hc; rfl, ?_⟩
      refine quo _ _ _ _ rfl fun e he => ?_
      rw [← back_wipe, he]
      simp (maxSteps := 1000000) only [List.getElem?_cons_zero, List.getElem?_cons_succ, List.set_cons_zero, List.set_cons_succ, List.getD_cons_zero, List.getD_cons_succ, dNotInU, dIxU, wPutU, dListU, dDu, dBinOO, dNeO, dDisp1T, dDisp2T, gDictPT, gSortT, gMaxD, dMeth, dMake, isIns, isO, OC.u.injEq, backD]
      exact ⟨by decide, hq _ rfl⟩
  rw [List.nil_append]
  unfold con_Powers_init conPI
  refine ⟨true, _, _, ptT p t, ⟨rfl, .inl rfl, ?_, ?_⟩, q⟩
  · rw [ept]
    exact itm_map fun x hx => ⟨_, .inl (.inl rfl), .inl rfl⟩
  · unfold ptT
    rw [List.length_map]
    exact Nat.lt_of_le_of_lt (List.length_filter_le _ _) hl
theorem ok_Powers_parts (T : Txt K mg A) {TB : List (Addr × Str)} : FnOk P w K mg base (L2.CX P w) 5 A.f_Powers_parts A.fd_Powers_parts ["self", "p"] (SpD K TB 0 (con_Powers_parts A)) :=
  okD (c := _) (wd := wd_Powers_parts A) T.F_Powers_parts sc_Powers_parts (fun cs P Y ⟨_, _, _, ⟨h, _⟩, _⟩ => by rw [h]; rfl) (by exact Nat.le_of_ble_eq_true rfl) (fun cdv A1 outer s H E G M hM hr => (psCons (psExpr (pcCall mono_need_from (ok_need_from T) (hr.mono (by decide)) passD (by rfl) T.mg_need_from T.F_need_from.2 (b_need_from T) (pbCons pdStr (pbCons (pdVar 1) (pbCons pdInt pbNil))))) (psCons (psSetLc (own := [("term", 3)]) sc_Powers_parts.nd (k := 2) rfl rfl rfl (piSeq (pdFld T.cl_Powers T.na_Powers_terms (pvName 0))) (blkOk_by (by rfl)) (fun _ _ _ _ _ => (pgN (i := 3) sc_Powers_parts.nd rfl (by first | exact Or.inl rfl | exact Or.inr rfl))) (fun _ _ _ _ _ => (ptsOne (ptVal (PEc.dat (pcAll (by rfl) T.no_all (PEc.vw (pcLc (own := [("exponent", 4)]) sc_Powers_parts.nd (piSeq (pdIxN 3 (u1 hr) pdInt (fun _ _ => rfl))) (blkOk_by (by rfl)) (fun _ _ _ _ _ => (pgN (i := 4) sc_Powers_parts.nd rfl (by first | exact Or.inl rfl | exact Or.inr rfl))) (fun _ _ _ _ _ => ptsNil) (fun _ _ _ _ _ => (pdEq hr.units (pdMod (pdVar 4) (pdVar 1)) pdInt)) s (by decide)))))))) (fun _ _ _ _ _ => (pdVar 3)) s (by decide)) (psCons (psRet (pcMake mono_Powers_init T.mk_Powers (ok_Powers_init T) hret_Powers_init (hr.mono (by decide)) passD (by rfl) T.mg_Powers (b_Powers_init T) (.nil) (fun _ => .nil) (paCons (PEc.dat (pcLc (own := [("exponents", 5), ("number", 6)]) sc_Powers_parts.nd (piSeq (pdVar 2)) (blkOk_by (by rfl)) (fun _ _ _ _ _ => (pgT (pgsCons (pgN (i := 5) sc_Powers_parts.nd rfl (by first | exact Or.inl rfl | exact Or.inr rfl)) (pgsCons (pgN (i := 6) sc_Powers_parts.nd rfl (by first | exact Or.inl rfl | exact Or.inr rfl)) pgsNil)))) (fun _ _ _ _ _ => ptsNil) (fun _ _ _ _ _ => (pdTup (paCons (PEc.dat (pcTuple (by rfl) T.no_tuple (PEc.vw (pcLc (own := [("exponent", 4)]) sc_Powers_parts.nd (piSeq (pdVar 5)) (blkOk_by (by rfl)) (fun _ _ _ _ _ => (pgN (i := 4) sc_Powers_parts.nd rfl (by first | exact Or.inl rfl | exact Or.inr rfl))) (fun _ _ _ _ _ => ptsNil) (fun _ _ _ _ _ => (pdFdiv (pdVar 4) (pdVar 1))) s (by decide))))) (paCons (pdVar 6) paNil)))) s (by decide))) paNil))) psNil)))) dat_Powers_parts
end
end K13
set_option maxRecDepth 100000
set_option maxHeartbeats 4000000
namespace K13
open PySem PySem.Spec PyProof.Rows L2 DL LamX LTX
section
variable {P : Program} {w : World} {K : PySem.W.Frag} {mg : Str → Option Value} {base : Heap} {A : Adr}
/-! ### Powers.modulo -/
def wd_Powers_modulo (A : Adr) (G : Addr → List (Str × DV) → List Cell → Prop) : WS := (wSeq (wDrop (dCall (con_need_from A) G (bCons (dC (.str "modulus")) (bCons (dVar 1) (bCons (dC (.int 1)) bNil))))) (wSeq (wRet (dMake A.c_Powers (con_Powers_init A) G [] (aCons (dDat (dLc [2, 3] (iData (dFld A.c_Powers "terms" (dPeek 0))) (gT 2 (gsCons (gN 2) (gsCons (gN 3) gsNil))) dYes (dTup (aCons (dVar 2) (aCons (dMod (dVar 3) (dVar 1)) aNil))))) aNil))) wNil))
def conMo (A : Adr) : Con := fun cs P _ => ∃ (t : Tms) (v : DV) (m : Nat), (cs = [.d v, .d (.int (m : Int))] ∧ PwD A.c_Powers v t) ∧ (0 < m ∧ t.length < LINE) ∧ ∀ fs u, PwF fs u → Eqv u (mdT m t) → P (.o false (.ins A.c_Powers fs)) []
theorem mono_conMo {A : Adr} : ConMono (conMo A) := fun cs P P2 Y Y2 hP hY ⟨t, v, p, h, h2, q⟩ => ⟨t, v, p, h, h2, fun fs u a b => hP _ _ (q fs u a b)⟩
def con_Powers_modulo (A : Adr) : Con := conMo A
theorem mono_Powers_modulo : ConMono (con_Powers_modulo A) := mono_conMo
theorem dat_Powers_modulo : ∀ cs P Y, con_Powers_modulo A cs P Y → runD 4 (wd_Powers_modulo A fun C fs e => Y C fs (borsAt e (ownIx 0 cs))) cs P := by
  rintro cs P Y ⟨t, v, m, ⟨rfl, ⟨fs, rfl, hc, ts, rs, rfl, ht⟩⟩, ⟨hp, hl⟩, q⟩
  obtain ⟨xs, rfl, et, hxs⟩ := ht.un
  unfold wd_Powers_modulo runD
  refine seq_gen fun kk hk => ?_
  simp (maxSteps := 1000000) only [wDrop, dVar, dC, dCall, bNil, bCons, DL.cellOf, DL.borIx, DL.putB, DL.allOwn, DL.borsAt, ownIx, parC, List.map_cons, List.map_nil, List.cons_append, List.nil_append, List.length_cons, List.length_nil, List.replicate_succ, List.replicate_zero, List.getElem?_cons_zero, List.getElem?_cons_succ, List.nodup_nil, true_and, and_true, Nat.reduceAdd, Nat.reduceSub, Nat.zero_add, dNotInU, dIxU, wPutU, dListU, dDu, dBinOO, dNeO, dDisp1T, dDisp2T, gDictPT, gSortT, gMaxD, dMeth, dMake, isIns, isO, OC.u.injEq]
  unfold con_need_from conNF
  refine ⟨"modulus", .int m, 1, rfl, .inl ⟨m, rfl, by omega, ?_⟩⟩
  show kk _
  subst hk
  refine seq_gen fun kk hk => ?_
  simp (maxSteps := 1000000) only [wRet, dDat, iData, dI_tup, dLc, optP, dPeek, aNil, aCons, dFld, DL.borsAt, ownIx, Cell.view, Cell.frz, OC.frz, List.map_cons, List.map_nil, List.cons_append, List.nil_append, List.getElem?_cons_zero, Option.bind_some, true_and, dNotInU, dIxU, wPutU, dListU, dDu, dBinOO, dNeO, dDisp1T, dDisp2T, gDictPT, gSortT, gMaxD, dMeth, dMake, isIns, isO, OC.u.injEq, fl_terms]
  refine ⟨fun v hv c hc => by
    simp only [List.mem_cons, List.not_mem_nil, or_false] at hv
    rcases hv with rfl | rfl <;> (cases hc; rfl), ?_⟩
  refine lc_map (e := triV) (fun y => .tup [y.1, .int (y.2.2 % m)]) (E0 := [.d (.ins A.c_Powers [("terms", .tup (xs.map triV)), ("reach", rs)]), .d (.int m), .un, .un]) xs [] _ rfl (fun y hy Q' hq => ?_) (fun e he => ?_)
  · unfold triV
    simp (maxSteps := 1000000) only [gN, gsNil, gsCons, gT, dVar, dOp2d, gI2, aNil, aCons, dTup, okSet, List.length_cons, List.length_nil, List.getElem?_cons_zero, List.getElem?_cons_succ, List.set_cons_zero, List.set_cons_succ, true_and, Nat.reduceAdd, Nat.zero_add, dNotInU, dIxU, wPutU, dListU, dDu, dBinOO, dNeO, dDisp1T, dDisp2T, gDictPT, gSortT, gMaxD, dMeth, dMake, isIns, isO, OC.u.injEq]
    exact ⟨by omega, by decide, hq _ rfl⟩
  rw [List.nil_append]
  unfold con_Powers_init conPI
  refine ⟨true, _, _, mdT m t, ⟨rfl, .inl rfl, ?_, ?_⟩, q⟩
  · rw [← et]
    exact itm_map fun x hx => ⟨x.1, .inl (hxs x hx), .inl rfl⟩
  · unfold mdT
    rw [List.length_map]
    exact hl
theorem ok_Powers_modulo (T : Txt K mg A) {TB : List (Addr × Str)} : FnOk P w K mg base (L2.CX P w) 5 A.f_Powers_modulo A.fd_Powers_modulo ["self", "m"] (SpD K TB 0 (con_Powers_modulo A)) :=
  okD (c := _) (wd := wd_Powers_modulo A) T.F_Powers_modulo sc_Powers_modulo (fun cs P Y ⟨_, _, _, ⟨h, _⟩, _⟩ => by rw [h]; rfl) (by exact Nat.le_of_ble_eq_true rfl) (fun cdv A1 outer s H E G M hM hr => (psCons (psExpr (pcCall mono_need_from (ok_need_from T) (hr.mono (by decide)) passD (by rfl) T.mg_need_from T.F_need_from.2 (b_need_from T) (pbCons pdStr (pbCons (pdVar 1) (pbCons pdInt pbNil))))) (psCons (psRet (pcMake mono_Powers_init T.mk_Powers (ok_Powers_init T) hret_Powers_init (hr.mono (by decide)) passD (by rfl) T.mg_Powers (b_Powers_init T) (.nil) (fun _ => .nil) (paCons (PEc.dat (pcLc (own := [("exponents", 2), ("number", 3)]) sc_Powers_modulo.nd (piSeq (pdFld T.cl_Powers T.na_Powers_terms (pvName 0))) (blkOk_by (by rfl)) (fun _ _ _ _ _ => (pgT (pgsCons (pgN (i := 2) sc_Powers_modulo.nd rfl (by first | exact Or.inl rfl | exact Or.inr rfl)) (pgsCons (pgN (i := 3) sc_Powers_modulo.nd rfl (by first | exact Or.inl rfl | exact Or.inr rfl)) pgsNil)))) (fun _ _ _ _ _ => ptsNil) (fun _ _ _ _ _ => (pdTup (paCons (pdVar 2) (paCons (pdMod (pdVar 3) (pdVar 1)) paNil)))) s (by decide))) paNil))) psNil))) dat_Powers_modulo
end
end K13
set_option maxRecDepth 100000
set_option maxHeartbeats 4000000
namespace K13
open PySem PySem.Spec PyProof.Rows L2 DL LamX LTX
section
variable {P : Program} {w : World} {K : PySem.W.Frag} {mg : Str → Option Value} {base : Heap} {A : Adr}
/-! ### _law_pen -/
def bd_law_pen_1 (A : Adr) (G : Addr → List (Str × DV) → List Cell → Prop) : WS := (wSeq (wSet 1 (dCel (dMod (dDat (dOp1 gInt (dVw (dOp2 gAdd (dDat (dOp2 gMul (dVar 1) (dC (.int 41)))) (dVar 2))))) (dC (.int 1000000007))))) wNil)
def wd_law_pen (A : Adr) (G : Addr → List (Str × DV) → List Cell → Prop) : WS := (wSeq (wSet 1 (dCel (dC (.int 0)))) (wSeq (wFor (iData (dVar 0)) (gN 2) (bd_law_pen_1 A G)) (wSeq (wRet (dDisp (ppC (dC (.str "cells")) (dDat (dOp1 gList (dPeek 0))) (ppC (dC (.str "at")) (dC (.int 0)) (ppC (dC (.str "digits")) (dC (.int 0)) (ppC (dC (.str "count")) (dC (.int 0)) (ppC (dC (.str "fold")) (dVar 1) ppN))))))) wNil)))
def conr_law_pen (A : Adr) : Con := conPenK
theorem dat_law_pen : ∀ cs P Y, conr_law_pen A cs P Y → runD 3 (wd_law_pen A fun C fs e => Y C fs (borsAt e (ownIx 0 cs))) cs P := by
  rintro cs P Y ⟨ns, ⟨rfl, hl⟩, hp⟩
  unfold wd_law_pen runD
  refine seq_gen fun k hk => ?_
  simp (maxSteps := 1000000) only [wSet, dCel, dC, parC, okSet, List.cons_append, List.nil_append, List.length_cons, List.length_nil, List.replicate_succ, List.replicate_zero, List.getElem?_cons_zero, List.getElem?_cons_succ, List.set_cons_zero, List.set_cons_succ, true_and, Nat.reduceSub, Nat.zero_add]
  subst hk
  refine seq_gen fun k hk => ?_
  simp (maxSteps := 1000000) only [wFor, dVar, iData, dI_klst, DL.borsAt, ownIx, List.getElem?_cons_zero]
  have key : ∀ (ms : List Int) (f : Int) (x : Cell), 0 ≤ f → f < 2147483587 → okSet [Cell.d (DV.klst (List.map DV.int ns)), Cell.d (DV.int f), x] 2 →
      goFor (gN 2) (bd_law_pen_1 A fun C fs e => Y C fs []) { nx := k, rt := fun r e => P r [] } (List.map DV.int ms) [Cell.d (DV.klst (List.map DV.int ns)), Cell.d (DV.int f), x] := by
    intro ms
    induction ms with
    | nil =>
      intro f x h0 h1 hx
      show k _
      subst hk
      refine seq_gen fun k hk => ?_
      simp (maxSteps := 1000000) only [wRet, dDat, dVar, dC, iD_klst, optP, dPeek, dOp1, gList, DV.key, dDisp, ppN, ppC, DL.kvsOf, DL.borsAt, ownIx, Cell.view, Cell.frz, OC.frz, List.length_cons, List.length_nil, List.getElem?_cons_zero, List.getElem?_cons_succ, Option.bind_some, Nat.reduceAdd, Nat.zero_add]
      exact ⟨by decide, hp f h0 h1⟩
    | cons m ms ih =>
      intro f x h0 h1 hx
      refine ⟨hx, ?_⟩
      show bd_law_pen_1 A _ _ _
      unfold bd_law_pen_1
      refine seq_gen fun k2 hk2 => ?_
      simp (maxSteps := 1000000) only [wSet, dCel, dDat, dVar, dC, dOp2, dOp2d, gI2, gAdd, gMul, optP, dVw, dOp1, gInt, okSet, Cell.view, Cell.frz, List.getElem?_cons_zero, List.getElem?_cons_succ, List.set_cons_zero, List.set_cons_succ, true_and]
      subst hk2
      exact ⟨.inl (.inr ⟨by decide, by decide⟩), by decide, ih _ _ (Int.emod_nonneg _ (by decide)) (Int.lt_trans (Int.emod_lt_of_pos _ (by decide)) (by decide)) trivial⟩
  exact key ns 0 .un (Int.le_refl _) (by decide) trivial
theorem okr_law_pen (T : Txt K mg A) {TB : List (Addr × Str)} : FnOk P w K mg base (L2.CX P w) 1 A.f_law_pen A.fd_law_pen ["_law_script"] (SpD K TB 0 (conr_law_pen A)) :=
  okD (c := _) (wd := wd_law_pen A) T.F_law_pen sc_law_pen (fun cs P Y ⟨ns, ⟨e, _⟩, _⟩ => by rw [e]; rfl) (by exact Nat.le_of_ble_eq_true rfl) (fun cdv A1 outer s H E G M hM hr => (psCons (psSet (i := 1) sc_law_pen.nd rfl (by first | exact Or.inl rfl | exact Or.inr rfl) (PEd.cel pdInt)) (psCons (psFor ownD (piSeq (pdVar 0)) (pgN (i := 2) sc_law_pen.nd rfl (by first | exact Or.inl rfl | exact Or.inr rfl)) (psCons (psSet (i := 1) sc_law_pen.nd rfl (by first | exact Or.inl rfl | exact Or.inr rfl) (PEd.cel (pdMod (PEc.dat (pcInt (by rfl) T.no_int (PEc.vw (pcAdd (PEc.dat (pcMul (pdVar 1) pdInt)) (pdVar 2))))) pdInt))) psNil)) (psCons (psRet (pcDisp (ppCons pdStr (PEc.dat (pcList (by rfl) T.no_list (pvName 0))) (ppCons pdStr pdInt (ppCons pdStr pdInt (ppCons pdStr pdInt (ppCons pdStr (pdVar 1) ppNil))))))) psNil)))) dat_law_pen
def con_law_pen (A : Adr) : Con := conPen
theorem mono_law_pen : ConMono (con_law_pen A) := mono_conPen
theorem ok_law_pen (T : Txt K mg A) {TB : List (Addr × Str)} : FnOk P w K mg base (L2.CX P w) 1 A.f_law_pen A.fd_law_pen ["_law_script"] (SpD K TB 0 (con_law_pen A)) := pen_ok (okr_law_pen T)
end
end K13
set_option maxRecDepth 100000
set_option maxHeartbeats 4000000
namespace K13
open PySem PySem.Spec PyProof.Rows L2 DL LamX LTX
section
variable {P : Program} {w : World} {K : PySem.W.Frag} {mg : Str → Option Value} {base : Heap} {A : Adr}
/-! ### _law_draw -/
def wd_law_draw (A : Adr) (G : Addr → List (Str × DV) → List Cell → Prop) : WS := (wSeq (wPutD 0 (dDat (dOp2 gAdd (dIxN 0 (dC (.str "count"))) (dC (.int 1)))) (dC (.str "count"))) (wSeq (wIf (dAnd (tEq (dIxN 0 (dC (.str "digits"))) (dC (.int 0))) (tLt (dIxN 0 (dC (.str "at"))) (dDat (dOp1 gLen (dIxN 0 (dC (.str "cells"))))))) (wSeq (wSet 2 (dCel (dIx (dIxN 0 (dC (.str "cells"))) (dIxN 0 (dC (.str "at")))))) (wSeq (wPutD 0 (dDat (dOp2 gAdd (dIxN 0 (dC (.str "at"))) (dC (.int 1)))) (dC (.str "at"))) (wSeq (wIf (tGe (dVar 2) (dPow (dC (.int 10)) (dC (.int 18)))) (wSeq (wPutD 0 (dSub (dVar 2) (dPow (dC (.int 10)) (dC (.int 18)))) (dC (.str "digits"))) wNil) (wSeq (wPutD 0 (dMod (dDat (dOp1 gInt (dVw (dOp2 gAdd (dDat (dOp2 gMul (dIxN 0 (dC (.str "fold"))) (dC (.int 69069)))) (dVar 2))))) (dC (.int 2147483587))) (dC (.str "fold"))) wNil)) wNil))) wNil) (wSeq (wIf (tGt (dIxN 0 (dC (.str "digits"))) (dC (.int 0))) (wSeq (wSet 3 (dCel (dMod (dDat (dOp1 gInt (dIxN 0 (dC (.str "digits"))))) (dVar 1)))) (wSeq (wPutD 0 (dFdiv (dIxN 0 (dC (.str "digits"))) (dVar 1)) (dC (.str "digits"))) (wSeq (wRet (dCel (dVar 3))) wNil))) wNil) (wSeq (wSet 4 (dOp2 gAdd (dDat (dOp2 gAdd (dIxN 0 (dC (.str "fold"))) (dDat (dOp2 gMul (dIxN 0 (dC (.str "count"))) (dC (.int 7907)))))) (dC (.int 37)))) (wSeq (wRet (dCel (dMod (dFdiv (dDat (dOp1 gInt (dMod (dPow (dVar 4) (dC (.int 17))) (dC (.int 2305843009213693951))))) (dC (.int 128))) (dVar 1)))) wNil)))))
def conr_law_draw (A : Adr) : Con := conDrawK
theorem dat_law_draw : ∀ cs P Y, conr_law_draw A cs P Y → runD 5 (wd_law_draw A fun C fs e => Y C fs (borsAt e (ownIx 0 cs))) cs P := by
  rintro cs P Y ⟨b, m, c, i, g, k, f, rfl, ⟨m0, m1⟩, R, hp⟩
  have ⟨r1, r2, r3, r4, r5, r6⟩ := R
  unfold wd_law_draw runD
  refine seq_gen fun kk hk => ?_
  simp (maxSteps := 1000000) only [dDat, dC, dOp2, gAdd, dIxN, ixD, optP, wPutD, DV.key, exists_and_left, exists_eq_left, exists_eq_left', exists_eq', exists_eq, exists_const, or_false, false_and, and_false, and_assoc, Option.some.injEq, Cell.o.injEq, OC.k.injEq, parC, Cell.view, Cell.frz, OC.flat, List.cons_append, List.nil_append, List.length_cons, List.length_nil, List.replicate_succ, List.replicate_zero, List.getElem?_cons_zero, List.set_cons_zero, Option.bind_some, true_and, and_true, reduceCtorEq, Nat.reduceAdd, Nat.reduceSub, Nat.zero_add, Bool.true_eq, pen_cells, pen_at, pen_digits, pen_count, pen_fold, put_at, put_digits, put_count, put_fold, pen_len]
  subst hk
  refine seq_gen fun kk hk => ?_
  have hkk : ∀ (i' g' f' : Int) (x : Cell), 0 ≤ i' → 0 ≤ g' → 0 ≤ f' → f' < 2147483587 → kk [Cell.o true (OC.k (penKV c i' g' (k + 1) f')), Cell.d (DV.int m), x, Cell.un, Cell.un] := by
    intro i' g' f' x hi hg hf0 hf1
    subst hk
    refine seq_gen fun kk hk => ?_
    simp (maxSteps := 1000000) only [wNil, wIf, dC, dCmp, gB2, dIxN, ixD, optP, DL.borsAt, ownIx, Cell.view, OC.flat, List.getElem?_cons_zero, Option.bind_some, true_and, pen_cells, pen_at, pen_digits, pen_count, pen_fold, put_at, put_digits, put_count, put_fold, pen_len]
    refine ite_dec (fun h => ?_) (fun h => ?_)
    · refine seq_gen fun k1 hk1 => ?_
      simp (maxSteps := 1000000) only [wSet, dCel, dDat, dVar, dC, dOp2d, gI2, dIxN, ixD, optP, dOp1, gInt, okSet, Cell.view, Cell.frz, OC.flat, List.getElem?_cons_zero, List.getElem?_cons_succ, List.set_cons_zero, List.set_cons_succ, Option.bind_some, true_and, pen_cells, pen_at, pen_digits, pen_count, pen_fold, put_at, put_digits, put_count, put_fold, pen_len]
      refine ⟨m0, ?_⟩
      subst hk1
      refine seq_gen fun k1 hk1 => ?_
      simp (maxSteps := 1000000) only [dVar, dC, dOp2d, gI2, dIxN, ixD, optP, wPutD, DV.key, exists_and_left, exists_eq_left, exists_eq_left', exists_eq', exists_eq, exists_const, or_false, false_and, and_false, and_assoc, Option.some.injEq, Cell.o.injEq, OC.k.injEq, Cell.view, OC.flat, List.getElem?_cons_zero, List.getElem?_cons_succ, List.set_cons_zero, Option.bind_some, true_and, and_true, reduceCtorEq, Bool.true_eq, pen_cells, pen_at, pen_digits, pen_count, pen_fold, put_at, put_digits, put_count, put_fold, pen_len]
      refine ⟨⟨m0, m1⟩, ?_⟩
      subst hk1
      refine seq_gen fun k1 hk1 => ?_
      simp (maxSteps := 1000000) only [wRet, dCel, dVar, List.getElem?_cons_zero, List.getElem?_cons_succ, pen_cells, pen_at, pen_digits, pen_count, pen_fold, put_at, put_digits, put_count, put_fold, pen_len]
      exact hp _ _ _ _ (Int.emod_nonneg _ (Int.ne_of_gt m0)) (Int.emod_lt_of_pos _ m0) ⟨hi, Int.ediv_nonneg hg (Int.le_of_lt m0), r3, r4, hf0, hf1⟩
    · subst hk
      refine seq_gen fun k1 hk1 => ?_
      simp (maxSteps := 1000000) only [wSet, dDat, dC, dOp2, gAdd, gMul, dIxN, ixD, optP, okSet, Cell.view, Cell.frz, OC.flat, List.getElem?_cons_zero, List.getElem?_cons_succ, List.set_cons_zero, List.set_cons_succ, Option.bind_some, true_and, pen_cells, pen_at, pen_digits, pen_count, pen_fold, put_at, put_digits, put_count, put_fold, pen_len]
      subst hk1
      refine ⟨.inl (.inr ⟨by decide, by decide⟩), ?_⟩
      refine seq_gen fun k1 hk1 => ?_
      simp (maxSteps := 1000000) only [wRet, dCel, dDat, dVar, dC, dOp2d, gI2, dOp1, gInt, DL.borsAt, ownIx, Cell.frz, OC.frz, List.getElem?_cons_zero, List.getElem?_cons_succ, pen_cells, pen_at, pen_digits, pen_count, pen_fold, put_at, put_digits, put_count, put_fold, pen_len]
      have hl := lim1
      refine ⟨pow17 (by omega) (by omega), by decide, ⟨by decide, by decide⟩, m0, ?_⟩
      exact hp _ _ _ _ (Int.emod_nonneg _ (Int.ne_of_gt m0)) (Int.emod_lt_of_pos _ m0) ⟨hi, hg, r3, r4, hf0, hf1⟩
  simp (maxSteps := 1000000) only [wNil, wIf, dDat, dC, dCmp, gB2, gEq, dAnd, ln_lst, dIxN, ixD, optP, dOp1, gLen, DL.borsAt, ownIx, Cell.view, Cell.frz, OC.flat, List.getElem?_cons_zero, Option.bind_some, true_and, and_true, if_false, Bool.false_eq_true, pen_cells, pen_at, pen_digits, pen_count, pen_fold, put_at, put_digits, put_count, put_fold, pen_len, ok_int, eqD_int]
  refine ite_dec (fun h => ?_) (fun h => ?_)
  · refine ite_dec (fun h2 => ?_) (fun h2 => ?_)
    · refine seq_gen fun k1 hk1 => ?_
      simp (maxSteps := 1000000) only [wSet, dCel, dC, dIx, dIxN, ixD, optP, okSet, Cell.view, OC.flat, List.getElem?_cons_zero, List.getElem?_cons_succ, List.set_cons_zero, List.set_cons_succ, Option.bind_some, true_and, pen_cells, pen_at, pen_digits, pen_count, pen_fold, put_at, put_digits, put_count, put_fold, pen_len]
      obtain ⟨z, ez⟩ := atI_int r1 h2
      rw [ez]
      dsimp only
      subst hk1
      refine seq_gen fun k1 hk1 => ?_
      simp (maxSteps := 1000000) only [dDat, dC, dOp2, gAdd, dIxN, ixD, optP, wPutD, DV.key, exists_and_left, exists_eq_left, exists_eq_left', exists_eq', exists_eq, exists_const, or_false, false_and, and_false, and_assoc, Option.some.injEq, Cell.o.injEq, OC.k.injEq, Cell.view, Cell.frz, OC.flat, List.getElem?_cons_zero, List.set_cons_zero, Option.bind_some, true_and, and_true, reduceCtorEq, Bool.true_eq, pen_cells, pen_at, pen_digits, pen_count, pen_fold, put_at, put_digits, put_count, put_fold, pen_len]
      subst hk1
      refine seq_gen fun k1 hk1 => ?_
      simp (maxSteps := 1000000) only [wIf, dVar, dC, dOp2d, gI2, dCmp, gB2, List.getElem?_cons_zero, List.getElem?_cons_succ, pen_cells, pen_at, pen_digits, pen_count, pen_fold, put_at, put_digits, put_count, put_fold, pen_len]
      refine ⟨⟨by decide, by decide⟩, ?_⟩
      refine ite_dec (fun h3 => ?_) (fun h3 => ?_)
      · refine seq_gen fun k2 hk2 => ?_
        simp (maxSteps := 1000000) only [dVar, dC, dOp2d, gI2, gI0, wPutD, DV.key, exists_and_left, exists_eq_left, exists_eq_left', exists_eq', exists_eq, exists_const, or_false, false_and, and_false, and_assoc, Option.some.injEq, Cell.o.injEq, OC.k.injEq, List.getElem?_cons_zero, List.getElem?_cons_succ, List.set_cons_zero, true_and, and_true, reduceCtorEq, Bool.true_eq, pen_cells, pen_at, pen_digits, pen_count, pen_fold, put_at, put_digits, put_count, put_fold, pen_len]
        refine ⟨⟨by decide, by decide⟩, ?_⟩
        subst hk2
        subst hk1
        exact hkk _ _ _ _ (by omega) (by omega) r5 r6
      · refine seq_gen fun k2 hk2 => ?_
        simp (maxSteps := 1000000) only [dDat, dVar, dC, dOp2, dOp2d, gI2, gAdd, gMul, dIxN, ixD, optP, dVw, dOp1, gInt, wPutD, DV.key, exists_and_left, exists_eq_left, exists_eq_left', exists_eq', exists_eq, exists_const, or_false, false_and, and_false, and_assoc, Option.some.injEq, Cell.o.injEq, OC.k.injEq, Cell.view, Cell.frz, OC.flat, List.getElem?_cons_zero, List.getElem?_cons_succ, List.set_cons_zero, Option.bind_some, true_and, and_true, reduceCtorEq, Bool.true_eq, pen_cells, pen_at, pen_digits, pen_count, pen_fold, put_at, put_digits, put_count, put_fold, pen_len]
        refine ⟨.inl (.inr ⟨by decide, by decide⟩), by decide, ?_⟩
        subst hk2
        subst hk1
        exact hkk _ _ _ _ (by omega) r2 (Int.emod_nonneg _ (by decide)) (Int.emod_lt_of_pos _ (by decide))
    · exact hkk _ _ _ _ r1 r2 r5 r6
  · exact hkk _ _ _ _ r1 r2 r5 r6
theorem okr_law_draw (T : Txt K mg A) {TB : List (Addr × Str)} : FnOk P w K mg base (L2.CX P w) 1 A.f_law_draw A.fd_law_draw ["_law_pen_here", "_law_many"] (SpD K TB 0 (conr_law_draw A)) :=
  okD (c := _) (wd := wd_law_draw A) T.F_law_draw sc_law_draw (fun cs P Y ⟨b, m, c, i, g, k, f, e, _⟩ => by rw [e]; rfl) (by exact Nat.le_of_ble_eq_true rfl) (fun cdv A1 outer s H E G M hM hr => (psCons (psPutD 0 (u1 hr) (PEc.dat (pcAdd (pdIxN 0 (u1 hr) pdStr (fun _ _ => rfl)) pdInt)) pdStr) (psCons (psIf (PWd.pt (pwAnd (ptEq hr.units (pdIxN 0 (u1 hr) pdStr (fun _ _ => rfl)) pdInt) (pwAnd1 (ptLt (pdIxN 0 (u1 hr) pdStr (fun _ _ => rfl)) (PEc.dat (pcLen (by rfl) T.no_len (PEd.vw (pdIxN 0 (u1 hr) pdStr (fun _ _ => rfl))))))))) (psCons (psSet (i := 2) sc_law_draw.nd rfl (by first | exact Or.inl rfl | exact Or.inr rfl) (PEd.cel (pdIx (u1 hr) (pdIxN 0 (u1 hr) pdStr (fun _ _ => rfl)) (pdIxN 0 (u1 hr) pdStr (fun _ _ => rfl)) (fun _ _ => rfl)))) (psCons (psPutD 0 (u1 hr) (PEc.dat (pcAdd (pdIxN 0 (u1 hr) pdStr (fun _ _ => rfl)) pdInt)) pdStr) (psCons (psIf (ptGe (pdVar 2) (pdPow pdInt pdInt)) (psCons (psPutD 0 (u1 hr) (pdSub (pdVar 2) (pdPow pdInt pdInt)) pdStr) psNil) (psCons (psPutD 0 (u1 hr) (pdMod (PEc.dat (pcInt (by rfl) T.no_int (PEc.vw (pcAdd (PEc.dat (pcMul (pdIxN 0 (u1 hr) pdStr (fun _ _ => rfl)) pdInt)) (pdVar 2))))) pdInt) pdStr) psNil)) psNil))) psNil) (psCons (psIf (ptGt (pdIxN 0 (u1 hr) pdStr (fun _ _ => rfl)) pdInt) (psCons (psSet (i := 3) sc_law_draw.nd rfl (by first | exact Or.inl rfl | exact Or.inr rfl) (PEd.cel (pdMod (PEc.dat (pcInt (by rfl) T.no_int (PEd.vw (pdIxN 0 (u1 hr) pdStr (fun _ _ => rfl))))) (pdVar 1)))) (psCons (psPutD 0 (u1 hr) (pdFdiv (pdIxN 0 (u1 hr) pdStr (fun _ _ => rfl)) (pdVar 1)) pdStr) (psCons (psRet (PEd.cel (pdVar 3))) psNil))) psNil) (psCons (psSet (i := 4) sc_law_draw.nd rfl (by first | exact Or.inl rfl | exact Or.inr rfl) (pcAdd (PEc.dat (pcAdd (pdIxN 0 (u1 hr) pdStr (fun _ _ => rfl)) (PEc.dat (pcMul (pdIxN 0 (u1 hr) pdStr (fun _ _ => rfl)) pdInt)))) pdInt)) (psCons (psRet (PEd.cel (pdMod (pdFdiv (PEc.dat (pcInt (by rfl) T.no_int (PEd.vw (pdMod (pdPow (pdVar 4) pdInt) pdInt)))) pdInt) (pdVar 1)))) psNil)))))) dat_law_draw
def con_law_draw (A : Adr) : Con := conDraw
theorem mono_law_draw : ConMono (con_law_draw A) := mono_conDraw
theorem ok_law_draw (T : Txt K mg A) {TB : List (Addr × Str)} : FnOk P w K mg base (L2.CX P w) 1 A.f_law_draw A.fd_law_draw ["_law_pen_here", "_law_many"] (SpD K TB 1 (con_law_draw A)) := draw_ok (okr_law_draw T)
end
end K13
set_option maxRecDepth 100000
set_option maxHeartbeats 4000000
namespace K13
open PySem PySem.Spec PyProof.Rows L2 DL LamX LTX
section
variable {P : Program} {w : World} {K : PySem.W.Frag} {mg : Str → Option Value} {base : Heap} {A : Adr}
/-! ### _law_pick -/
def wd_law_pick (A : Adr) (G : Addr → List (Str × DV) → List Cell → Prop) : WS := (wSeq (wRet (dCel (dIxN 1 (dDat (dCall (con_law_draw A) G (bBor 0 (bCons (dDat (dOp1 gLen (dPeek 1))) bNil))))))) wNil)
def con_law_pick (A : Adr) : Con := conPick
theorem mono_law_pick : ConMono (con_law_pick A) := mono_conPick
theorem dat_law_pick : ∀ cs P Y, con_law_pick A cs P Y → runD 2 (wd_law_pick A fun C fs e => Y C fs (borsAt e (ownIx 0 cs))) cs P := by
  intro cs P Y h
  obtain ⟨b, l, xs, rfl, hi, ⟨h1, h2⟩, hp⟩ := conPick_inv h
  unfold wd_law_pick runD
  refine seq_gen fun k hk => ?_
  have h0 : 0 < xs.length := List.length_pos_iff.mpr h1
  cases l <;> cases hi
  all_goals
    simp (maxSteps := 1000000) only [wRet, dCel, dDat, ln_lst, ln_tup, ln_ktup, dIxN, ixD, optP, dPeek, dOp1, gLen, and_assoc, dCall, bNil, bCons, bBor, DL.cellOf, DL.borIx, DL.putB, DL.allOwn, DL.sameOwn, DL.borsAt, ownIx, parC, Cell.view, Cell.frz, List.map_cons, List.map_nil, List.cons_append, List.nil_append, List.length_cons, List.length_nil, List.replicate_zero, List.getElem?_cons_zero, List.getElem?_cons_succ, List.set_cons_zero, Option.bind_some, List.nodup_nil, List.nodup_cons, List.not_mem_nil, not_false_eq_true, true_and, and_true, Nat.reduceAdd, Nat.zero_add, Nat.sub_self, con_law_draw, conDraw]
    refine ⟨by omega, log_small h2, fun r r0 r1 => ?_⟩
    obtain ⟨d, e1, e2⟩ := atI_in r0 r1
    rw [e2]
    exact hp d (List.mem_of_getElem? e1)
theorem ok_law_pick (T : Txt K mg A) {TB : List (Addr × Str)} : FnOk P w K mg base (L2.CX P w) 2 A.f_law_pick A.fd_law_pick ["_law_pen_here", "_law_some"] (SpD K TB 1 (con_law_pick A)) :=
  okD (c := _) (wd := wd_law_pick A) T.F_law_pick sc_law_pick (fun cs P Y h => by obtain ⟨b, l, xs, rfl, _⟩ := conPick_inv h; rfl) (by exact Nat.le_of_ble_eq_true rfl) (fun cdv A1 outer s H E G M hM hr => (psCons (psRet (PEd.cel (pdIxN 1 (u1 hr) (PEc.dat (pcCall mono_law_draw (ok_law_draw T) (hr.mono (by decide)) passD (by rfl) T.mg_law_draw T.F_law_draw.2 (b_law_draw T) (pbBor 0 (pbCons (PEc.dat (pcLen (by rfl) T.no_len (pvName 1))) pbNil)))) (fun _ _ => rfl)))) psNil)) dat_law_pick
end
end K13
set_option maxRecDepth 100000
set_option maxHeartbeats 4000000
namespace K13
open PySem PySem.Spec PyProof.Rows L2 DL LamX LTX
section
variable {P : Program} {w : World} {K : PySem.W.Frag} {mg : Str → Option Value} {base : Heap} {A : Adr}
/-! ### _law_power -/
def wd_law_power (A : Adr) (G : Addr → List (Str × DV) → List Cell → Prop) : WS := (wSeq (wSet 1 (dDisp (ppC (dC (.int 2)) (dTup (aCons (dC (.int 2)) (aCons (dC (.int 1)) aNil))) (ppC (dC (.int 4)) (dTup (aCons (dC (.int 2)) (aCons (dC (.int 2)) aNil))) (ppC (dC (.int 8)) (dTup (aCons (dC (.int 2)) (aCons (dC (.int 3)) aNil))) (ppC (dC (.int 16)) (dTup (aCons (dC (.int 2)) (aCons (dC (.int 4)) aNil))) (ppC (dC (.int 3)) (dTup (aCons (dC (.int 3)) (aCons (dC (.int 1)) aNil))) (ppC (dC (.int 9)) (dTup (aCons (dC (.int 3)) (aCons (dC (.int 2)) aNil))) (ppC (dC (.int 27)) (dTup (aCons (dC (.int 3)) (aCons (dC (.int 3)) aNil))) (ppC (dC (.int 5)) (dTup (aCons (dC (.int 5)) (aCons (dC (.int 1)) aNil))) (ppC (dC (.int 25)) (dTup (aCons (dC (.int 5)) (aCons (dC (.int 2)) aNil))) ppN))))))))))) (wSeq (wRet (dCel (dGetN2 1 (dVar 0) (dTup (aCons (dC (.int 7)) (aCons (dC (.int 1)) aNil)))))) wNil))
def pws : List (Int × Nat × Nat) := [(2, 2, 1), (4, 2, 2), (8, 2, 3), (16, 2, 4), (3, 3, 1), (9, 3, 2), (27, 3, 3), (5, 5, 1), (25, 5, 2), (7, 7, 1)]
def conPw : Con := fun cs P _ => ∃ (m : Int) (p k : Nat), (cs = [.d (.int m)] ∧ (m, p, k) ∈ pws) ∧ P (.d (.tup [.int (p : Int), .int (k : Int)])) []
theorem mono_conPw : ConMono conPw := fun cs P P2 Y Y2 hP hY ⟨m, p, k, h, q⟩ => ⟨m, p, k, h, hP _ _ q⟩
def con_law_power (A : Adr) : Con := conPw
theorem mono_law_power : ConMono (con_law_power A) := mono_conPw
theorem dat_law_power : ∀ cs P Y, con_law_power A cs P Y → runD 2 (wd_law_power A fun C fs e => Y C fs (borsAt e (ownIx 0 cs))) cs P := by
  rintro cs P Y ⟨m, p, k, ⟨rfl, hm⟩, q⟩
  unfold wd_law_power runD
  refine seq_gen fun kk hk => ?_
  simp (maxSteps := 1000000) only [wSet, dC, optP, aNil, aCons, dTup, DV.key, dDisp, ppN, ppC, DL.kvsOf, parC, okSet, List.cons_append, List.nil_append, List.length_cons, List.length_nil, List.replicate_succ, List.replicate_zero, List.getElem?_cons_zero, List.getElem?_cons_succ, List.set_cons_zero, List.set_cons_succ, true_and, Nat.reduceAdd, Nat.reduceSub, Nat.zero_add, dNotInU, dIxU, wPutU, dListU, dDu, dBinOO, dNeO, dDisp1T, dDisp2T, gDictPT, gSortT, gMaxD, dMeth, dMake, isIns, isO, OC.u.injEq]
  refine ⟨by decide, by decide, by decide, by decide, by decide, by decide, by decide, by decide, by decide, by decide, ?_⟩
  subst hk
  refine seq_gen fun kk hk => ?_
  unfold pws at hm
  simp only [List.mem_cons, List.not_mem_nil, or_false, Prod.mk.injEq] at hm
  generalize hK : mergeD [] [(Sum.inl 2, DV.tup [DV.int 2, DV.int 1]), (Sum.inl 4, DV.tup [DV.int 2, DV.int 2]), (Sum.inl 8, DV.tup [DV.int 2, DV.int 3]), (Sum.inl 16, DV.tup [DV.int 2, DV.int 4]), (Sum.inl 3, DV.tup [DV.int 3, DV.int 1]), (Sum.inl 9, DV.tup [DV.int 3, DV.int 2]), (Sum.inl 27, DV.tup [DV.int 3, DV.int 3]), (Sum.inl 5, DV.tup [DV.int 5, DV.int 1]), (Sum.inl 25, DV.tup [DV.int 5, DV.int 2])] = KV
  have lk : lookD (.dk KV) (.int m) = some (if m = 7 then none else some (.tup [.int p, .int k])) := by
    rw [← hK]
    rcases hm with ⟨rfl, rfl, rfl⟩ | ⟨rfl, rfl, rfl⟩ | ⟨rfl, rfl, rfl⟩ | ⟨rfl, rfl, rfl⟩ | ⟨rfl, rfl, rfl⟩ | ⟨rfl, rfl, rfl⟩ | ⟨rfl, rfl, rfl⟩ | ⟨rfl, rfl, rfl⟩ | ⟨rfl, rfl, rfl⟩ | ⟨rfl, rfl, rfl⟩
    all_goals rfl
  have h7 : m = 7 → p = 7 ∧ k = 1 := by omega
  simp (maxSteps := 1000000) only [wRet, dCel, dVar, dC, optP, aNil, aCons, dTup, dGetN2, DL.borsAt, ownIx, Cell.view, OC.flat, List.length_cons, List.length_nil, List.getElem?_cons_zero, List.getElem?_cons_succ, Option.bind_some, true_and, Nat.reduceAdd, Nat.zero_add, dNotInU, dIxU, wPutU, dListU, dDu, dBinOO, dNeO, dDisp1T, dDisp2T, gDictPT, gSortT, gMaxD, dMeth, dMake, isIns, isO, OC.u.injEq, lk, isDk]
  refine ⟨by decide, ?_⟩
  by_cases e : m = 7
  · obtain ⟨rfl, rfl⟩ := h7 e
    rw [if_pos e]
    exact q
  · rw [if_neg e]
    exact q
theorem ok_law_power (T : Txt K mg A) {TB : List (Addr × Str)} : FnOk P w K mg base (L2.CX P w) 1 A.f_law_power A.fd_law_power ["_law_m"] (SpD K TB 0 (con_law_power A)) :=
  okD (c := _) (wd := wd_law_power A) T.F_law_power sc_law_power (fun cs P Y ⟨_, _, _, ⟨h, _⟩, _⟩ => by rw [h]; rfl) (by exact Nat.le_of_ble_eq_true rfl) (fun cdv A1 outer s H E G M hM hr => (psCons (psSet (i := 1) sc_law_power.nd rfl (by first | exact Or.inl rfl | exact Or.inr rfl) (pcDisp (ppCons pdInt (pdTup (paCons pdInt (paCons pdInt paNil))) (ppCons pdInt (pdTup (paCons pdInt (paCons pdInt paNil))) (ppCons pdInt (pdTup (paCons pdInt (paCons pdInt paNil))) (ppCons pdInt (pdTup (paCons pdInt (paCons pdInt paNil))) (ppCons pdInt (pdTup (paCons pdInt (paCons pdInt paNil))) (ppCons pdInt (pdTup (paCons pdInt (paCons pdInt paNil))) (ppCons pdInt (pdTup (paCons pdInt (paCons pdInt paNil))) (ppCons pdInt (pdTup (paCons pdInt (paCons pdInt paNil))) (ppCons pdInt (pdTup (paCons pdInt (paCons pdInt paNil))) ppNil))))))))))) (psCons (psRet (PEd.cel (pdGetN2 1 (u1 hr) (pdVar 0) (pdTup (paCons pdInt (paCons pdInt paNil))) (by constructor <;> first | rfl | (intro _; rfl))))) psNil))) dat_law_power
end
end K13
set_option maxRecDepth 100000
set_option maxHeartbeats 4000000
namespace K13
open PySem PySem.Spec PyProof.Rows L2 DL LamX LTX
section
variable {P : Program} {w : World} {K : PySem.W.Frag} {mg : Str → Option Value} {base : Heap} {A : Adr}
/-! ### _law_poly -/
def bd_law_poly_1 (A : Adr) (G : Addr → List (Str × DV) → List Cell → Prop) : WS := (wSeq (wSet 6 (dLc [7] (iR1 (dC (.int 3))) (gN 7) dYes (dDat (dIf (tLt (dVar 7) (dVar 1)) (dCel (dSub (dDat (dCall (con_law_draw A) (fun _ _ _ => False) (bBor 0 (bCons (dDat (dOp2 gAdd (dDat (dOp2 gMul (dC (.int 2)) (dVar 2))) (dC (.int 1)))) bNil)))) (dVar 2))) (dCel (dC (.int 0))))))) (wSeq (wSet 8 (dCall (con_law_pick A) G (bBor 0 (bCons (dDat (dLst (aCons (dC (.int 1)) (aCons (dC (.int 1)) (aCons (dC (.int 1)) (aCons (dNeg (dC (.int 1))) (aCons (dC (.int 2)) (aCons (dC (.int 3)) (aCons (dSub (dDat (dCall (con_law_draw A) G (bBor 0 (bCons (dC (.int 41)) bNil)))) (dC (.int 20))) aNil))))))))) bNil)))) (wSeq (wSet 6 (dCel (dTup (aCons (dIxN 6 (dC (.int 0))) (aCons (dIxN 6 (dC (.int 1))) (aCons (dIxN 6 (dC (.int 2))) aNil)))))) (wSeq (wPutD 4 (dDat (dOp2 gAdd (dGetN2 4 (dVar 6) (dC (.int 0))) (dVar 8))) (dVar 6)) wNil))))
def wd_law_poly (A : Adr) (G : Addr → List (Str × DV) → List Cell → Prop) : WS := (wSeq (wSet 4 dDt) (wSeq (wFor (iR1 (dDat (dOp2 gAdd (dC (.int 1)) (dDat (dCall (con_law_draw A) G (bBor 0 (bCons (dVar 3) bNil))))))) (gN 5) (bd_law_poly_1 A G)) (wSeq (wRet (dOp1 gDictPT (dVw (dPre 4 (dLcTN 4 [6] (gN 6) (tNe (dIxN 4 (dVar 6)) (dC (.int 0))) (dTup (aCons (dVar 6) (aCons (dIxN 4 (dVar 6)) aNil)))))))) wNil)))
def conPo : Con := fun cs P _ => ∃ (b : Bool) (l R m : Nat), (cs = [.o b .pen, .d (.int (l : Int)), .d (.int (R : Int)), .d (.int (m : Int))] ∧ 0 < m ∧ m ≤ 10 ∧ R ≤ 10) ∧ ∀ t : Tms, (t.map (·.1)).Nodup → t.length ≤ m → nrm t ≤ 20 * m → (∀ k ∈ t.map (·.1), Bx l R k) → P (.o false (.t (kdD t))) [.pen]
theorem mono_conPo : ConMono conPo := fun cs P P2 Y Y2 hP hY ⟨b, l, R, m, h, q⟩ => ⟨b, l, R, m, h, fun t h1 h2 h3 h4 => hP _ _ (q t h1 h2 h3 h4)⟩
def con_law_poly (A : Adr) : Con := conPo
theorem mono_law_poly : ConMono (con_law_poly A) := mono_conPo
theorem addT_nil (k : K3) (x : Int) : addT [] k x = [(k, 0 + x)] := rfl
theorem addT_cons (p : K3 × Int) (t : Tms) (k : K3) (x : Int) : addT (p :: t) k x = if p.1 = k then (k, p.2 + x) :: t.map (fun q => if q.1 = k then (k, p.2 + x) else q) else p :: addT t k x := by
  unfold addT putT
  rw [getT_cons]
  by_cases h : p.1 = k
  · rw [if_pos h, if_pos h, if_pos (by rfl), List.map_cons, if_pos h]
    rfl
  · rw [if_neg h, if_neg h]
    by_cases g : (getT t k).isSome = true
    · rw [if_pos g, if_pos g, List.map_cons, if_neg h]
    · rw [if_neg g, if_neg g, List.cons_append]
theorem nrm_addT {t : Tms} (h : (t.map (·.1)).Nodup) (k : K3) (x : Int) : nrm (addT t k x) ≤ nrm t + x.natAbs := by
  induction t with
  | nil => rw [addT_nil, nrm, nrm, nrm]; show (0 + x).natAbs + 0 ≤ _; omega
  | cons p t ih =>
    rw [List.map_cons, List.nodup_cons] at h
    rw [addT_cons]
    split
    · rename_i e
      have z : t.map (fun q => if q.1 = k then (k, p.2 + x) else q) = t := by
        conv => rhs; rw [← List.map_id t]
        refine List.map_congr_left fun q hq => ?_
        rw [if_neg (fun z => h.1 (by rw [e, ← z]; exact List.mem_map_of_mem hq))]
        rfl
      rw [z, nrm, nrm]
      show (p.2 + x).natAbs + nrm t ≤ _
      omega
    · rw [nrm, nrm]
      have := ih h.2
      omega
theorem len_addT (t : Tms) (k : K3) (x : Int) : (addT t k x).length ≤ t.length + 1 := by
  unfold addT putT
  split
  · rw [List.length_map]; omega
  · rw [List.length_append]; exact Nat.le_refl _
theorem addT_nodup {t : Tms} (h : (t.map (·.1)).Nodup) (k : K3) (x : Int) : ((addT t k x).map (·.1)).Nodup := putT_nodup h _ _
theorem look_kd' (t : Tms) (k : K3) : lookD (.dt (kdD t)) (.tup (k3v k)) = some ((getT t k).map DV.int) := by
  show (DV.tup (k3v k)).tkey.map (fun k => valD (kdD t) k) = _
  rw [key_tkey]
  show some (valD (kdD t) (k3k k)) = _
  rw [valD_kd]
theorem getD_int (o : Option Int) : (o.map DV.int).getD (.int 0) = .int (o.getD 0) := by cases o <;> rfl
theorem ix_kp {t : Tms} (hn : (t.map (·.1)).Nodup) {p : K3 × Int} (hp : p ∈ t) : lookD (.dt (kdD t)) (.tup (k3v p.1)) = some (some (.int p.2)) := by
  rw [look_kd']
  obtain ⟨v, hv⟩ := Option.isSome_iff_exists.mp (getT_some.mpr (List.mem_map_of_mem (f := fun p : K3 × Int => p.1) hp))
  have := getT_cf hn p.1
  rw [hv, cf_mem hn hp] at this
  rw [hv]
  show some (some (DV.int v)) = _
  rw [show v = p.2 from this]
theorem pairs_kd (l : Tms) : pairsT (l.map fun p => .tup [.tup (k3v p.1), .int p.2]) = some (kdD l) := by
  induction l with
  | nil => rfl
  | cons p l ih =>
    rw [List.map_cons, pairsT, ih]
    rfl
theorem nrm_filter (f : K3 × Int → Bool) (t : Tms) : nrm (t.filter f) ≤ nrm t := by
  induction t with
  | nil => exact Nat.le_refl _
  | cons p t ih =>
    rw [List.filter_cons]
    split
    · rw [nrm, nrm]; omega
    · rw [nrm]; omega
theorem kd_items (t : Tms) : (kdD t).map (fun p => tkD p.1) = t.map fun p => .tup (k3v p.1) := by
  unfold kdD
  rw [List.map_map]
  rfl
theorem mem_addT {t : Tms} {k k' : K3} {x : Int} (h : k' ∈ (addT t k x).map (·.1)) : k' ∈ t.map (·.1) ∨ k' = k := by
  unfold addT at h
  rw [putT_keys] at h
  split at h
  · exact .inl h
  · rcases List.mem_append.mp h with h | h
    · exact .inl h
    · exact .inr (List.mem_singleton.mp h)
theorem poly_go {A : Adr} {G : Addr → List (Str × DV) → List Cell → Prop} {D : EndsD} {l R m : Nat} (hR : R ≤ 10) : ∀ (n : Nat) (lo : Int) (t : Tms) (x5 x6 x8 : Cell), (t.map (·.1)).Nodup → (∀ k ∈ t.map (·.1), Bx l R k) → t.length + n ≤ 10 → x5.own = false → x6.own = false → x8.own = false →
    (∀ t' x5 x6 x8, (t'.map (·.1)).Nodup → t'.length ≤ t.length + n → nrm t' ≤ nrm t + 20 * n → (∀ k ∈ t'.map (·.1), Bx l R k) → x5.own = false → x6.own = false → x8.own = false → D.nx [.o true .pen, .d (.int (l : Int)), .d (.int (R : Int)), .d (.int (m : Int)), .o false (.t (kdD t')), x5, x6, .un, x8]) →
    goFor (gN 5) (bd_law_poly_1 A G) D (ramp lo n) [.o true .pen, .d (.int (l : Int)), .d (.int (R : Int)), .d (.int (m : Int)), .o false (.t (kdD t)), x5, x6, .un, x8] := by
  intro n
  induction n with
  | zero =>
    intro lo t x5 x6 x8 hn hK hl h5 h6 h8 h
    exact h t x5 x6 x8 hn (Nat.le_refl _) (Nat.le_refl _) hK h5 h6 h8
  | succ n ih =>
    intro lo t x5 x6 x8 hn hK hl h5 h6 h8 h
    rw [ramp_succ]
    refine ⟨(by cases x5 <;> first | trivial | cases h5), ?_⟩
    show bd_law_poly_1 A _ { D with nx := goFor (gN 5) (bd_law_poly_1 A G) D (ramp (lo + 1) n), ct := goFor (gN 5) (bd_law_poly_1 A G) D (ramp (lo + 1) n), bk := D.nx } _
    generalize hF : goFor (gN 5) (bd_law_poly_1 A G) D (ramp (lo + 1) n) = F
    unfold bd_law_poly_1
    refine seq_gen fun k1 hk1 => ?_
    simp (maxSteps := 1000000) only [wSet, dC, iR1, dLc, and_assoc, okSet, List.set_cons_zero, List.set_cons_succ, dNotInU, dIxU, wPutU, dListU, dDu, dBinOO, dNeO, dDisp1T, dDisp2T, gDictPT, gSortT, gMaxD, dMeth, dMake, isIns, isO, OC.u.injEq]
    refine ⟨by decide, by decide, fun v hv c hc => (by cases List.mem_singleton.mp hv; cases hc; rfl), ?_⟩
    refine lc_prI (fun x y => ∃ i n : Int, x = .int i ∧ y = .int n ∧ (-(R : Int) ≤ n ∧ n ≤ R) ∧ ((l : Int) ≤ i → n = 0)) (E0 := [.o true .pen, .d (.int (l : Int)), .d (.int (R : Int)), .d (.int (m : Int)), .o false (.t (kdD t)), .d (.int lo), x6, .un, x8]) _ _ rfl (fun r hr Q' hq => ?_) (fun ys e hT2 he => ?_)
    · have wm : CMulW 2 (R : Int) := wide_mul (a := 2) (b := 4) (by decide) (show ((R : Nat) : Int).natAbs < 16 by omega) (by decide) (by decide) (by decide)
      have hr3 : r = .int 0 ∨ r = .int 1 ∨ r = .int 2 := by
        have hr : r ∈ ([.int 0, .int 1, .int 2] : List DV) := hr
        simpa using hr
      rcases hr3 with rfl | rfl | rfl
      all_goals
        simp (maxSteps := 1000000) only [gN, dCel, dDat, dVar, dC, dOp2, dOp2d, gI0, dCmp, gB2, gAdd, gMul, dIf, and_false, and_assoc, dCall, bNil, bCons, bBor, DL.cellOf, DL.borIx, DL.putB, DL.allOwn, DL.sameOwn, okSet, Cell.frz, OC.frz, List.map_cons, List.map_nil, List.getElem?_cons_zero, List.getElem?_cons_succ, List.set_cons_zero, List.set_cons_succ, List.nodup_nil, List.nodup_cons, List.not_mem_nil, not_false_eq_true, true_and, and_true, dNotInU, dIxU, wPutU, dListU, dDu, dBinOO, dNeO, dDisp1T, dDisp2T, gDictPT, gSortT, gMaxD, dMeth, dMake, isIns, isO, OC.u.injEq, con_law_draw, conDraw]
        refine ite_dec (fun hc => ⟨.inr wm, by omega, log_small (by omega), fun r r0 r1 => hq _ _ ⟨_, _, rfl, rfl, ⟨by omega, by omega⟩, fun z => by omega⟩ rfl⟩) (fun hc => hq _ _ ⟨_, 0, rfl, rfl, ⟨by omega, by omega⟩, fun _ => rfl⟩ rfl)
    rw [← back_wipe, he]
    simp (maxSteps := 1000000) only [List.getElem?_cons_zero, List.getElem?_cons_succ, List.set_cons_zero, List.set_cons_succ, List.getD_cons_zero, List.getD_cons_succ, backD]
    have hT2 : Paired _ [DV.int 0, .int 1, .int 2] ys := hT2
    obtain ⟨a, b, c, rfl, hbx⟩ : ∃ a b c : Int, ys = [.int a, .int b, .int c] ∧ Bx l R (a, b, c) := by
      cases hT2 with
      | cons h1 r1 =>
      cases r1 with
      | cons h2 r2 =>
      cases r2 with
      | cons h3 r3 =>
      cases r3
      obtain ⟨i1, a, e1, rfl, a1, a2⟩ := h1
      obtain ⟨i2, b, e2, rfl, b1, b2⟩ := h2
      obtain ⟨i3, c, e3, rfl, c1, c2⟩ := h3
      cases e1
      cases e2
      cases e3
      exact ⟨a, b, c, rfl, ⟨a1, b1, c1⟩, fun z => b2 (by omega), fun z => c2 (by omega)⟩
    refine ⟨(by cases x6 <;> first | trivial | cases h6), ?_⟩
    subst hk1
    refine seq_gen fun k1 hk1 => ?_
    simp (maxSteps := 1000000) only [wSet, dDat, dC, dOp2d, gI0, dNeg, optP, aNil, aCons, dLst, and_assoc, dCall, bNil, bCons, bBor, DL.cellOf, DL.borIx, DL.putB, DL.allOwn, DL.sameOwn, okSet, Cell.frz, OC.frz, List.map_cons, List.map_nil, List.length_cons, List.length_nil, List.getElem?_cons_zero, List.getElem?_cons_succ, List.set_cons_zero, List.set_cons_succ, List.nodup_nil, List.nodup_cons, List.not_mem_nil, not_false_eq_true, true_and, and_true, Nat.reduceAdd, Nat.zero_add, dNotInU, dIxU, wPutU, dListU, dDu, dBinOO, dNeO, dDisp1T, dDisp2T, gDictPT, gSortT, gMaxD, dMeth, dMake, isIns, isO, OC.u.injEq, con_law_draw, conDraw, con_law_pick, conPick]
    refine ⟨by decide, by decide, fun r r0 r1 => ⟨by decide, ?_⟩⟩
    show _ ∧ _ ∧ ∀ d ∈ _, _
    refine ⟨by simp, by simp, fun d hd => ⟨(by cases x8 <;> first | trivial | cases h8), ?_⟩⟩
    obtain ⟨x, rfl, hx⟩ : ∃ x : Int, d = .int x ∧ x.natAbs ≤ 20 := by
      simp only [List.mem_cons, List.not_mem_nil, or_false] at hd
      rcases hd with rfl | rfl | rfl | rfl | rfl | rfl | rfl
      all_goals exact ⟨_, rfl, by omega⟩
    subst hk1
    refine seq_gen fun k1 hk1 => ?_
    simp (maxSteps := 1000000) only [wSet, dCel, dC, dIxN, ixD, optP, aNil, aCons, dTup, okSet, Cell.view, OC.flat, List.length_cons, List.length_nil, List.getElem?_cons_zero, List.getElem?_cons_succ, List.set_cons_zero, List.set_cons_succ, Option.bind_some, true_and, Nat.reduceAdd, Nat.zero_add, dNotInU, dIxU, wPutU, dListU, dDu, dBinOO, dNeO, dDisp1T, dDisp2T, gDictPT, gSortT, gMaxD, dMeth, dMake, isIns, isO, OC.u.injEq, at30, at31, at32]
    refine ⟨by decide, ?_⟩
    subst hk1
    refine seq_gen fun k1 hk1 => ?_
    have e3 : DV.tup [.int a, .int b, .int c] = .tup (k3v (a, b, c)) := rfl
    rw [e3]
    have lk := look_kd' t (a, b, c)
    have tk := key_tkey (a, b, c)
    simp (maxSteps := 1000000) only [dDat, dVar, dC, dOp2, gAdd, optP, wPutD, DV.key, exists_and_left, exists_eq_left', exists_eq', exists_const, false_or, false_and, and_false, and_assoc, Option.some.injEq, Cell.o.injEq, OC.t.injEq, dGetN2, Cell.view, Cell.frz, OC.flat, List.getElem?_cons_zero, List.getElem?_cons_succ, List.set_cons_zero, List.set_cons_succ, Option.bind_some, true_and, and_true, reduceCtorEq, dNotInU, dIxU, wPutU, dListU, dDu, dBinOO, dNeO, dDisp1T, dDisp2T, gDictPT, gSortT, gMaxD, dMeth, dMake, isIns, isO, OC.u.injEq, lk, getD_int, tk, isDk]
    rw [putD_kd, kd_len]
    refine ⟨Nat.lt_of_lt_of_le (show t.length < 10 by omega) (by decide), ?_⟩
    subst hk1
    show F _
    subst hF
    have l1 := len_addT t (a, b, c) x
    have l2 := nrm_addT hn (a, b, c) x
    have hx2 : ∀ k ∈ (addT t (a, b, c) x).map (·.1), Bx l R k := fun k hk => by
      rcases mem_addT hk with hk | rfl
      · exact hK k hk
      · exact hbx
    exact ih (lo + 1) (addT t (a, b, c) x) _ _ _ (addT_nodup hn _ _) hx2 (by omega) rfl rfl rfl fun t' y5 y6 y8 g1 g2 g3 g4 g5 g6 g8 => h t' y5 y6 y8 g1 (by omega) (by omega) g4 g5 g6 g8
theorem dat_law_poly : ∀ cs P Y, con_law_poly A cs P Y → runD 9 (wd_law_poly A fun C fs e => Y C fs (borsAt e (ownIx 0 cs))) cs P := by
  rintro cs P Y ⟨b, l, R, m, ⟨rfl, m0, m5, hR⟩, q⟩
  unfold wd_law_poly runD
  refine seq_gen fun kk hk => ?_
  simp (maxSteps := 1000000) only [wSet, dDt, parC, okSet, List.cons_append, List.nil_append, List.length_cons, List.length_nil, List.replicate_succ, List.replicate_zero, List.getElem?_cons_zero, List.getElem?_cons_succ, List.set_cons_zero, List.set_cons_succ, true_and, Nat.reduceAdd, Nat.reduceSub, Nat.zero_add, dNotInU, dIxU, wPutU, dListU, dDu, dBinOO, dNeO, dDisp1T, dDisp2T, gDictPT, gSortT, gMaxD, dMeth, dMake, isIns, isO, OC.u.injEq]
  subst hk
  refine seq_gen fun kk hk => ?_
  simp (maxSteps := 1000000) only [wFor, dDat, dVar, dC, dOp2, gAdd, iR1, and_assoc, dCall, bNil, bCons, bBor, DL.cellOf, DL.borIx, DL.putB, DL.allOwn, DL.sameOwn, DL.borsAt, ownIx, Cell.frz, List.map_cons, List.map_nil, List.getElem?_cons_zero, List.getElem?_cons_succ, List.set_cons_zero, List.nodup_nil, List.nodup_cons, List.not_mem_nil, not_false_eq_true, true_and, and_true, dNotInU, dIxU, wPutU, dListU, dDu, dBinOO, dNeO, dDisp1T, dDisp2T, gDictPT, gSortT, gMaxD, dMeth, dMake, isIns, isO, OC.u.injEq, con_law_draw, conDraw]
  refine ⟨by omega, log_small (by omega), fun r r0 r1 => ⟨by omega, by omega, ?_⟩⟩
  refine poly_go hR _ _ [] .un .un .un List.nodup_nil (fun k hk => nomatch hk) (by rw [List.length_nil]; omega) rfl rfl rfl fun t x5 x6 x8 hn hl hm hx h5 h6 h8 => ?_
  show kk _
  subst hk
  refine seq_gen fun kk hk => ?_
  have kl := kd_len t
  simp (maxSteps := 1000000) only [wRet, dVar, optP, dVw, dOp1, and_assoc, DL.borsAt, ownIx, Cell.view, OC.frz, OC.flat, List.getElem?_cons_zero, List.getElem?_cons_succ, List.set_cons_zero, List.set_cons_succ, dNotInU, dIxU, wPutU, dListU, dDu, dBinOO, dNeO, dDisp1T, dDisp2T, gDictPT, gSortT, gMaxD, dMeth, dMake, isIns, isO, OC.u.injEq, dPre, dLcTN, kd_items]
  refine ⟨fun v hv c hc => (by cases List.mem_singleton.mp hv; cases hc; exact h6), by rw [kl]; exact Nat.le_trans (show t.length ≤ 10 by rw [List.length_nil] at hl; omega) (by decide), ?_⟩
  refine lcB_filter (e := fun p : K3 × Int => .tup (k3v p.1)) (fun p => decide (p.2 ≠ 0)) (fun p => .tup [.tup (k3v p.1), .int p.2]) (E0 := [.o true .pen, .d (.int (l : Int)), .d (.int (R : Int)), .d (.int (m : Int)), .d (.dt (kdD t)), x5, .un, .un, x8]) t [] _ (Nat.le_trans (show 0 + t.length ≤ 10 by rw [List.length_nil] at hl; omega) (by decide)) rfl (fun p hp Q' Q2 h1 h2 => ?_) (fun e he => ?_)
  · have ek := ix_kp hn hp
    simp (maxSteps := 1000000) only [gN, dVar, dC, dCmp, gEq, dIxN, ixD, optP, aNil, aCons, dTup, okSet, Cell.view, OC.frz, List.length_cons, List.length_nil, List.getElem?_cons_zero, List.getElem?_cons_succ, List.set_cons_zero, List.set_cons_succ, Option.bind_some, true_and, and_true, if_true, Nat.reduceAdd, Nat.zero_add, dNotInU, dIxU, wPutU, dListU, dDu, dBinOO, dNeO, dDisp1T, dDisp2T, gDictPT, gSortT, gMaxD, dMeth, dMake, isIns, isO, OC.u.injEq, ek, id_eq, ok_int, eqD_int]
    by_cases h0 : p.2 = 0
    · rw [if_neg (by rw [decide_eq_true h0]; intro z; cases z)]
      exact h2 (decide_eq_false (fun z => z h0)) _ rfl
    · rw [if_pos (by rw [decide_eq_false h0]; rfl)]
      refine ⟨by decide, ?_⟩
      exact h1 (decide_eq_true h0) _ rfl
  rw [← back_wipe, he]
  simp (maxSteps := 1000000) only [List.nil_append, List.getElem?_cons_zero, List.set_cons_zero, List.set_cons_succ, List.getD_cons_zero, List.getD_cons_succ, backD]
  refine ⟨_, pairs_kd _, ?_, ?_⟩
  · exact kd_nodup (hn.sublist (List.filter_sublist.map _))
  · refine q _ (hn.sublist (List.filter_sublist.map _)) ?_ ?_ fun k hk => hx k ((List.filter_sublist.map _).subset hk)
    · rw [List.length_nil] at hl
      exact Nat.le_trans (List.length_filter_le _ _) (by omega)
    · exact Nat.le_trans (nrm_filter _ _) (Nat.le_trans hm (by show 0 + _ ≤ _; omega))
theorem ok_law_poly (T : Txt K mg A) {TB : List (Addr × Str)} : FnOk P w K mg base (L2.CX P w) 3 A.f_law_poly A.fd_law_poly ["_law_pen_here", "_law_letters", "_law_reach", "_law_many"] (SpD K TB 281475010265089 (con_law_poly A)) :=
  okD (c := _) (wd := wd_law_poly A) T.F_law_poly sc_law_poly (fun cs P Y ⟨_, _, _, _, ⟨h, _⟩, _⟩ => by rw [h]; rfl) (by exact Nat.le_of_ble_eq_true rfl) (fun cdv A1 outer s H E G M hM hr => (psCons (psSet (i := 4) sc_law_poly.nd rfl (by first | exact Or.inl rfl | exact Or.inr rfl) pcDt) (psCons (psFor ownD (piRange1 (by rfl) T.no_range (PEc.dat (pcAdd pdInt (PEc.dat (pcCall mono_law_draw (ok_law_draw T) (hr.mono (by decide)) passD (by rfl) T.mg_law_draw T.F_law_draw.2 (b_law_draw T) (pbBor 0 (pbCons (pdVar 3) pbNil))))))) (pgN (i := 5) sc_law_poly.nd rfl (by first | exact Or.inl rfl | exact Or.inr rfl)) (psCons (psSetLc (own := [("_law_at", 7)]) sc_law_poly.nd (k := 6) rfl rfl rfl (piRange1 (by rfl) T.no_range pdInt) (blkOk_by (by rfl)) (fun _ _ _ _ _ => (pgN (i := 7) sc_law_poly.nd rfl (by first | exact Or.inl rfl | exact Or.inr rfl))) (fun _ _ _ _ _ => ptsNil) (fun _ _ _ _ _ => (PEc.dat (pcIf (ptLt (pdVar 7) (pdVar 1)) (PEd.cel (pdSub (PEc.dat (pcCall mono_law_draw (ok_law_draw T) (hr.mono (by decide)) passF (by rfl) T.mg_law_draw T.F_law_draw.2 (b_law_draw T) (pbBor 0 (pbCons (PEc.dat (pcAdd (PEc.dat (pcMul pdInt (pdVar 2))) pdInt)) pbNil)))) (pdVar 2))) (PEd.cel pdInt)))) s (by decide)) (psCons (psSet (i := 8) sc_law_poly.nd rfl (by first | exact Or.inl rfl | exact Or.inr rfl) (pcCall mono_law_pick (ok_law_pick T) (hr.mono (by decide)) passD (by rfl) T.mg_law_pick T.F_law_pick.2 (b_law_pick T) (pbBor 0 (pbCons (PEc.dat (pcLst (paCons pdInt (paCons pdInt (paCons pdInt (paCons (pdNeg pdInt) (paCons pdInt (paCons pdInt (paCons (pdSub (PEc.dat (pcCall mono_law_draw (ok_law_draw T) (hr.mono (by decide)) passD (by rfl) T.mg_law_draw T.F_law_draw.2 (b_law_draw T) (pbBor 0 (pbCons pdInt pbNil)))) pdInt) paNil))))))))) pbNil)))) (psCons (psSet (i := 6) sc_law_poly.nd rfl (by first | exact Or.inl rfl | exact Or.inr rfl) (PEd.cel (pdTup (paCons (pdIxN 6 (u1 hr) pdInt (fun _ _ => rfl)) (paCons (pdIxN 6 (u1 hr) pdInt (fun _ _ => rfl)) (paCons (pdIxN 6 (u1 hr) pdInt (fun _ _ => rfl)) paNil)))))) (psCons (psPutD 4 (u1 hr) (PEc.dat (pcAdd (pdGetN2 4 (u1 hr) (pdVar 6) pdInt (by constructor <;> first | rfl | (intro _; rfl))) (pdVar 8))) (pdVar 6)) psNil))))) (psCons (psRet (pcDictPT hr.units (by rfl) T.no_dict (PEc.vw (pcPre 4 (pcLcTN (own := [("_law_place", 6)]) 4 sc_law_poly.nd (blkOk_by (by rfl)) (fun _ _ _ _ _ => (pgN (i := 6) sc_law_poly.nd rfl (by first | exact Or.inl rfl | exact Or.inr rfl))) (fun _ _ _ _ _ => (ptsOne (ptNe hr.units (pdIxN 4 (u1 hr) (pdVar 6) (fun _ _ => rfl)) pdInt))) (fun _ _ _ _ _ => (pdTup (paCons (pdVar 6) (paCons (pdIxN 4 (u1 hr) (pdVar 6) (fun _ _ => rfl)) paNil)))) s (by decide)))))) psNil)))) dat_law_poly
end
end K13
set_option maxRecDepth 100000
set_option maxHeartbeats 4000000
namespace K13
open PySem PySem.Spec PyProof.Rows L2 DL LamX LTX
section
variable {P : Program} {w : World} {K : PySem.W.Frag} {mg : Str → Option Value} {base : Heap} {A : Adr}
/-! ### _law_shuffled -/
def bd_law_shuffled_1 (A : Adr) (G : Addr → List (Str × DV) → List Cell → Prop) : WS := (wSeq (wDrop (dAppend 3 (dDat (dPopAt 2 (dDat (dCall (con_law_draw A) G (bBor 0 (bCons (dDat (dOp1 gLen (dPeek 2))) bNil)))))))) wNil)
def wd_law_shuffled (A : Adr) (G : Addr → List (Str × DV) → List Cell → Prop) : WS := (wSeq (wPar 2 3 (dOp1 gList (dPeek 1)) (dLst aNil)) (wSeq (wFor (iR1 (dDat (dOp1 gLen (dPeek 1)))) (gN 4) (bd_law_shuffled_1 A G)) (wSeq (wRet (dCel (dVar 3))) wNil)))
def conSh : Con := fun cs P _ => ∃ (b : Bool) (ds : List DV), (cs = [.o b .pen, .d (.lst ds)] ∧ ds.length ≤ 1000000) ∧ ∀ es : List DV, es.Perm ds → P (.d (.lst es)) [.pen]
theorem mono_conSh : ConMono conSh := fun cs P P2 Y Y2 hP hY ⟨b, ds, h, q⟩ => ⟨b, ds, h, fun es g => hP _ _ (q es g)⟩
def con_law_shuffled (A : Adr) : Con := conSh
theorem mono_law_shuffled : ConMono (con_law_shuffled A) := mono_conSh
theorem er_perm {α : Type} : ∀ (l : List α) (k : Nat) (h : k < l.length), (l[k] :: l.eraseIdx k).Perm l
  | a :: l, 0, h => List.Perm.refl _
  | a :: l, k + 1, h => by
    have h2 : k < l.length := Nat.lt_of_succ_lt_succ h
    show (l[k] :: a :: l.eraseIdx k).Perm (a :: l)
    exact (List.Perm.swap a (l[k]) (l.eraseIdx k)).trans ((er_perm l k h2).cons a)
theorem sh_go {A : Adr} {G : Addr → List (Str × DV) → List Cell → Prop} {ds : List DV} {c1 : Cell} (hn : ds.length ≤ 1000000) {D : EndsD} : ∀ (k : Nat) (lo : Int) (l o : List DV) (x : Cell), l.length = k → (o ++ l).Perm ds → x.own = false →
    (∀ o x, o.Perm ds → x.own = false → D.nx [.o true .pen, c1, .o false (.l []), .o false (.l o), x]) →
    goFor (gN 4) (bd_law_shuffled_1 A G) D (ramp lo k) [.o true .pen, c1, .o false (.l l), .o false (.l o), x]
  | 0, lo, l, o, x, hl, hp, hx, h => by
    match l, hl with
    | [], _ =>
      rw [List.append_nil] at hp
      exact h o x hp hx
  | k + 1, lo, l, o, x, hl, hp, hx, h => by
    rw [ramp_succ]
    unfold goFor
    have hxx : okSet [.o true .pen, c1, .o false (.l l), .o false (.l o), x] 4 := by
      cases x <;> first | trivial | cases hx
    refine And.intro hxx ?_
    show bd_law_shuffled_1 A G _ _
    unfold bd_law_shuffled_1
    refine seq_gen fun k2 hk2 => ?_
    have hlen : o.length + l.length = ds.length := by
      have := hp.length_eq
      rw [List.length_append] at this
      exact this
    simp (maxSteps := 1000000) only [wDrop, dDat, ln_lst, optP, dPeek, dOp1, gLen, dAppend, dPopAt, exists_and_left, exists_eq_left', exists_eq', and_assoc, Option.some.injEq, Cell.o.injEq, OC.l.injEq, DV.int.injEq, dCall, bNil, bCons, bBor, DL.cellOf, DL.borIx, DL.putB, DL.allOwn, DL.sameOwn, Cell.view, Cell.frz, OC.flat, List.map_cons, List.map_nil, List.getElem?_cons_zero, List.getElem?_cons_succ, List.set_cons_zero, List.set_cons_succ, Option.bind_some, List.nodup_nil, List.nodup_cons, List.not_mem_nil, not_false_eq_true, true_and, and_true, dNotInU, dIxU, wPutU, dListU, dDu, dBinOO, dNeO, dDisp1T, dDisp2T, gDictPT, gSortT, gMaxD, dMeth, dMake, isIns, isO, OC.u.injEq, con_law_draw, conDraw]
    refine ⟨by omega, log_small (by omega), fun r r0 r1 => ?_⟩
    have hr : r.toNat < l.length := by omega
    refine ⟨by omega, by omega, r.toNat, ?_, l[r.toNat], List.getElem?_eq_getElem hr, Nat.lt_of_le_of_lt (show o.length ≤ 1000000 by omega) (by decide), ?_⟩
    · unfold ixN
      rw [if_pos (by omega), if_pos (by omega)]
    subst hk2
    show goFor _ _ _ _ _
    refine sh_go (A := A) (G := G) hn k (lo + 1) (l.eraseIdx r.toNat) (o ++ [l[r.toNat]]) _ (by rw [List.length_eraseIdx_of_lt hr]; omega) ?_ rfl h
    rw [List.append_assoc]
    refine List.Perm.trans (List.Perm.append_left o ?_) hp
    exact er_perm l _ hr
theorem dat_law_shuffled : ∀ cs P Y, con_law_shuffled A cs P Y → runD 5 (wd_law_shuffled A fun C fs e => Y C fs (borsAt e (ownIx 0 cs))) cs P := by
  rintro cs P Y ⟨b, ds, ⟨rfl, hl⟩, q⟩
  unfold wd_law_shuffled runD
  refine seq_gen fun kk hk => ?_
  simp (maxSteps := 1000000) only [wPar, iD_lst, optP, dPeek, dOp1, gList, aNil, dLst, parC, okSet, Cell.view, List.cons_append, List.nil_append, List.length_cons, List.length_nil, List.replicate_succ, List.replicate_zero, List.getElem?_cons_zero, List.getElem?_cons_succ, List.set_cons_zero, List.set_cons_succ, Option.bind_some, true_and, and_true, Nat.reduceAdd, Nat.reduceSub, Nat.zero_add, dNotInU, dIxU, wPutU, dListU, dDu, dBinOO, dNeO, dDisp1T, dDisp2T, gDictPT, gSortT, gMaxD, dMeth, dMake, isIns, isO, OC.u.injEq]
  refine ⟨by decide, ?_⟩
  subst hk
  refine seq_gen fun kk hk => ?_
  have lg := Nat.lt_of_le_of_lt hl (show 1000000 < 16777216 by decide)
  simp (maxSteps := 1000000) only [wFor, dDat, ln_lst, iR1, optP, dPeek, dOp1, gLen, and_assoc, DL.borsAt, ownIx, Cell.view, Cell.frz, List.getElem?_cons_zero, List.getElem?_cons_succ, Option.bind_some, dNotInU, dIxU, wPutU, dListU, dDu, dBinOO, dNeO, dDisp1T, dDisp2T, gDictPT, gSortT, gMaxD, dMeth, dMake, isIns, isO, OC.u.injEq]
  refine ⟨by omega, by omega, ?_⟩
  rw [show ((ds.length : Nat) : Int).toNat = ds.length by omega]
  refine sh_go hl _ 0 ds [] .un rfl (List.Perm.refl _) rfl fun o x ho hx => ?_
  show kk _
  subst hk
  exact q o ho
theorem ok_law_shuffled (T : Txt K mg A) {TB : List (Addr × Str)} : FnOk P w K mg base (L2.CX P w) 2 A.f_law_shuffled A.fd_law_shuffled ["_law_pen_here", "_law_some"] (SpD K TB 16777216 (con_law_shuffled A)) :=
  okD (c := _) (wd := wd_law_shuffled A) T.F_law_shuffled sc_law_shuffled (fun cs P Y ⟨_, _, ⟨h, _⟩, _⟩ => by rw [h]; rfl) (by exact Nat.le_of_ble_eq_true rfl) (fun cdv A1 outer s H E G M hM hr => (psCons (psPar (i := 2) (j := 3) sc_law_shuffled.nd rfl rfl (by decide) rfl rfl (pcList (by rfl) T.no_list (pvName 1)) (pcLst paNil) rfl) (psCons (psFor ownD (piRange1 (by rfl) T.no_range (PEc.dat (pcLen (by rfl) T.no_len (pvName 1)))) (pgN (i := 4) sc_law_shuffled.nd rfl (by first | exact Or.inl rfl | exact Or.inr rfl)) (psCons (psExpr (pcAppend 3 (PEc.dat (pcPopAt 2 (PEc.dat (pcCall mono_law_draw (ok_law_draw T) (hr.mono (by decide)) passD (by rfl) T.mg_law_draw T.F_law_draw.2 (b_law_draw T) (pbBor 0 (pbCons (PEc.dat (pcLen (by rfl) T.no_len (pvName 2))) pbNil)))))))) psNil)) (psCons (psRet (PEd.cel (pdVar 3))) psNil)))) dat_law_shuffled
end
end K13
set_option maxRecDepth 100000
set_option maxHeartbeats 4000000
namespace K13
open PySem PySem.Spec PyProof.Rows L2 DL LamX LTX
section
variable {P : Program} {w : World} {K : PySem.W.Frag} {mg : Str → Option Value} {base : Heap} {A : Adr}
/-! ### _law_made -/
def bd_law_made_1 (A : Adr) (G : Addr → List (Str × DV) → List Cell → Prop) : WS := (wSeq (wSet 6 (dCall (con_law_pick A) (fun _ _ _ => False) (bBor 0 (bCons (dDat (dLst (aCons (dVar 3) (aCons (dDat (dOp1 gList (dPeek 3))) aNil)))) bNil)))) (wSeq (wDrop (dAppend 2 (dDat (dCall (con_law_pick A) (fun _ _ _ => False) (bBor 0 (bCons (dDat (dLst (aCons (dTup (aCons (dVar 6) (aCons (dVar 5) aNil))) (aCons (dDat (dLst (aCons (dVar 6) (aCons (dVar 5) aNil)))) aNil)))) bNil)))))) wNil))
def bd_law_made_2 (A : Adr) (G : Addr → List (Str × DV) → List Cell → Prop) : WS := (wSeq (wSet 4 (dCel (dSub (dDat (dCall (con_law_draw A) (fun _ _ _ => False) (bBor 0 (bCons (dC (.int 9)) bNil)))) (dC (.int 4))))) (wSeq (wFor (iData (dDat (dLst (aCons (dVar 4) (aCons (dSub (dIxN 1 (dVar 3)) (dVar 4)) aNil))))) (gN 5) (bd_law_made_1 A G)) wNil))
def wd_law_made (A : Adr) (G : Addr → List (Str × DV) → List Cell → Prop) : WS := (wSeq (wSet 2 (dLst aNil)) (wSeq (wPre 1 (wForT 1 (gN 3) (bd_law_made_2 A G))) (wSeq (wRet (dMake A.c_Powers (con_Powers_init A) G [] (aCons (dDat (dCall (con_law_pick A) G (bBor 0 (bCons (dDat (dLst (aCons (dDat (dCall (con_law_shuffled A) G (bBor 0 (bCons (dVar 2) bNil)))) (aCons (dDat (dOp1 gTuple (dVw (dRev (dPeek 2))))) aNil)))) bNil)))) aNil))) wNil)))
def conMd (A : Adr) : Con := fun cs P _ => ∃ (b : Bool) (t : Tms), (cs = [.o b .pen, .d (.dt (kdD t))] ∧ (t.map (·.1)).Nodup ∧ t.length ≤ 1000) ∧ ∀ fs u, PwF fs u → Eqv u t → P (.o false (.ins A.c_Powers fs)) [.pen]
theorem mono_conMd {A : Adr} : ConMono (conMd A) := fun cs P P2 Y Y2 hP hY ⟨b, t, h, q⟩ => ⟨b, t, h, fun fs u h1 h2 => hP _ _ (q fs u h1 h2)⟩
def con_law_made (A : Adr) : Con := conMd A
theorem mono_law_made : ConMono (con_law_made A) := mono_conMd
theorem itm_perm {es ds : List DV} (h : es.Perm ds) : ∀ {l : Tms}, ItmD ds l → ∃ l', ItmD es l' ∧ l'.length = l.length ∧ Eqv l' l := by
  induction h with
  | nil => exact fun {l} h => ⟨l, h, rfl, Eqv.refl _⟩
  | cons x h ih =>
    intro l hl
    cases hl with
    | cons hx r =>
      obtain ⟨l', h1, h2, h3⟩ := ih r
      exact ⟨_ :: l', .cons hx h1, by rw [List.length_cons, List.length_cons, h2], fun k => by rw [cf, cf, h3]⟩
  | swap x y h =>
    intro l hl
    cases hl with
    | cons hx r =>
      cases r with
      | cons hy r =>
        exact ⟨_ :: _ :: _, .cons hy (.cons hx r), rfl, fun k => by rw [cf, cf, cf, cf]; omega⟩
  | trans h1 h2 ih1 ih2 =>
    intro l hl
    obtain ⟨l1, a1, a2, a3⟩ := ih2 hl
    obtain ⟨l2, b1, b2, b3⟩ := ih1 a1
    exact ⟨l2, b1, b2.trans a2, b3.trans a3⟩
theorem itm_snoc {ds : List DV} {l : Tms} (h : ItmD ds l) {d : DV} {p : K3 × Int} (hd : ItemD d p) : ItmD (ds ++ [d]) (l ++ [p]) := by
  induction h with
  | nil => exact .cons hd .nil
  | cons h r ih => exact .cons h ih
theorem mad_in {A : Adr} {G : Addr → List (Str × DV) → List Cell → Prop} {D : EndsD} {c1 c4 x6 : Cell} {p : K3 × Int} (n : Int) (h6 : x6.own = false) {ds : List DV} {l : Tms} (hi : ItmD ds l) (hl : l.length < 10000) (h : ∀ ds' y6, ItmD ds' (l ++ [(p.1, n)]) → y6.own = false → D.nx [.o true .pen, c1, .o false (.l ds'), .d (.tup (k3v p.1)), c4, .d (.int n), y6]) :
    bd_law_made_1 A G D [.o true .pen, c1, .o false (.l ds), .d (.tup (k3v p.1)), c4, .d (.int n), x6] := by
  have dl : ds.length = l.length := Paired.length hi
  unfold bd_law_made_1
  refine seq_gen fun k2 hk2 => ?_
  simp (maxSteps := 1000000) only [wSet, dDat, dVar, iD_tup, optP, dPeek, dOp1, gList, aNil, aCons, dLst, and_assoc, dCall, bNil, bCons, bBor, DL.cellOf, DL.borIx, DL.putB, DL.allOwn, DL.sameOwn, okSet, Cell.view, Cell.frz, OC.frz, List.map_cons, List.map_nil, List.length_cons, List.length_nil, List.getElem?_cons_zero, List.getElem?_cons_succ, List.set_cons_zero, List.set_cons_succ, Option.bind_some, List.nodup_nil, List.nodup_cons, List.not_mem_nil, not_false_eq_true, true_and, and_true, Nat.reduceAdd, Nat.zero_add, dNotInU, dIxU, wPutU, dListU, dDu, dBinOO, dNeO, dDisp1T, dDisp2T, gDictPT, gSortT, gMaxD, dMeth, dMake, isIns, isO, OC.u.injEq, con_law_pick, conPick]
  refine ⟨by decide, ?_⟩
  show _ ∧ _ ∧ ∀ d ∈ _, _
  refine ⟨by simp, by simp, fun x hx => ⟨(by cases x6 <;> first | trivial | cases h6), ?_⟩⟩
  have hx : ExpD x p.1 := by
    simp only [List.mem_cons, List.not_mem_nil, or_false] at hx
    rcases hx with rfl | rfl
    · exact .inl (.inl rfl)
    · exact .inr rfl
  subst hk2
  refine seq_gen fun k2 hk2 => ?_
  simp (maxSteps := 1000000) only [wDrop, dDat, dVar, optP, aNil, aCons, dTup, dLst, dAppend, exists_and_left, exists_eq_left', exists_eq', and_assoc, Option.some.injEq, Cell.o.injEq, OC.l.injEq, dCall, bNil, bCons, bBor, DL.cellOf, DL.borIx, DL.putB, DL.allOwn, DL.sameOwn, Cell.frz, OC.frz, List.map_cons, List.map_nil, List.length_cons, List.length_nil, List.getElem?_cons_zero, List.getElem?_cons_succ, List.set_cons_zero, List.set_cons_succ, List.nodup_nil, List.nodup_cons, List.not_mem_nil, not_false_eq_true, true_and, and_true, Nat.reduceAdd, Nat.zero_add, dNotInU, dIxU, wPutU, dListU, dDu, dBinOO, dNeO, dDisp1T, dDisp2T, gDictPT, gSortT, gMaxD, dMeth, dMake, isIns, isO, OC.u.injEq, con_law_pick, conPick]
  refine ⟨by decide, by decide, by decide, ?_⟩
  show _ ∧ _ ∧ ∀ d ∈ _, _
  refine ⟨by simp, by simp, fun d hd => ⟨Nat.lt_of_lt_of_le (show ds.length < 10000 by omega) (by decide), ?_⟩⟩
  have hd : ItemD d (p.1, n) := by
    simp only [List.mem_cons, List.not_mem_nil, or_false] at hd
    rcases hd with rfl | rfl
    · exact ⟨x, hx, .inl rfl⟩
    · exact ⟨x, hx, .inr rfl⟩
  subst hk2
  exact h _ _ (itm_snoc hi hd) rfl
theorem mad_out {A : Adr} {G : Addr → List (Str × DV) → List Cell → Prop} {D : EndsD} {t : Tms} (nt : (t.map (·.1)).Nodup) : ∀ (us : Tms) (ds : List DV) (l : Tms) (x3 x4 x5 x6 : Cell), (∀ p ∈ us, p ∈ t) → ItmD ds l → l.length + 2 * us.length < 10000 → x3.own = false → x4.own = false → x5.own = false → x6.own = false →
    (∀ ds l' x3 x4 x5 x6, ItmD ds l' → l'.length = l.length + 2 * us.length → Eqv l' (l ++ us) → D.nx [.o true .pen, .d (.dt (kdD t)), .o false (.l ds), x3, x4, x5, x6]) →
    goFor (gN 3) (bd_law_made_2 A G) D (us.map fun p => .tup (k3v p.1)) [.o true .pen, .d (.dt (kdD t)), .o false (.l ds), x3, x4, x5, x6] := by
  intro us
  induction us with
  | nil =>
    intro ds l x3 x4 x5 x6 hu hi hl h3 h4 h5 h6 h
    exact h ds l x3 x4 x5 x6 hi rfl (by rw [List.append_nil]; exact Eqv.refl _)
  | cons p us ih =>
    intro ds l x3 x4 x5 x6 hu hi hl h3 h4 h5 h6 h
    rw [List.map_cons]
    rw [List.length_cons] at hl
    refine ⟨(by cases x3 <;> first | trivial | cases h3), ?_⟩
    generalize hF : goFor (gN 3) (bd_law_made_2 A G) D (us.map fun q => .tup (k3v q.1)) = F at ih ⊢
    show bd_law_made_2 A _ _ _
    have hp := hu p List.mem_cons_self
    have e1 := ix_kp nt hp
    unfold bd_law_made_2
    refine seq_gen fun k1 hk1 => ?_
    simp (maxSteps := 1000000) only [wSet, dCel, dDat, dC, dOp2d, gI0, and_assoc, dCall, bNil, bCons, bBor, DL.cellOf, DL.borIx, DL.putB, DL.allOwn, DL.sameOwn, okSet, Cell.frz, List.map_cons, List.map_nil, List.getElem?_cons_zero, List.getElem?_cons_succ, List.set_cons_zero, List.set_cons_succ, List.nodup_nil, List.nodup_cons, List.not_mem_nil, not_false_eq_true, true_and, and_true, dNotInU, dIxU, wPutU, dListU, dDu, dBinOO, dNeO, dDisp1T, dDisp2T, gDictPT, gSortT, gMaxD, dMeth, dMake, isIns, isO, OC.u.injEq, con_law_draw, conDraw]
    refine ⟨by decide, by decide, fun r r0 r1 => ⟨(by cases x4 <;> first | trivial | cases h4), ?_⟩⟩
    subst hk1
    refine seq_gen fun k1 hk1 => ?_
    simp (maxSteps := 1000000) only [wFor, dDat, dVar, dOp2d, gI0, iData, dI_lst, dIxN, ixD, optP, aNil, aCons, dLst, Cell.view, Cell.frz, OC.frz, List.length_cons, List.length_nil, List.getElem?_cons_zero, List.getElem?_cons_succ, Option.bind_some, true_and, Nat.reduceAdd, Nat.zero_add, dNotInU, dIxU, wPutU, dListU, dDu, dBinOO, dNeO, dDisp1T, dDisp2T, gDictPT, gSortT, gMaxD, dMeth, dMake, isIns, isO, OC.u.injEq, e1, id_eq]
    refine ⟨by decide, ?_⟩
    refine ⟨(by cases x5 <;> first | trivial | cases h5), ?_⟩
    refine mad_in (r - 4) h6 hi (by omega) fun ds1 y6 hi1 g6 => ?_
    refine ⟨trivial, ?_⟩
    refine mad_in (p.2 - (r - 4)) g6 hi1 (by rw [List.length_append, List.length_singleton]; omega) fun ds2 z6 hi2 w6 => ?_
    show k1 _
    subst hk1
    show F _
    refine ih ds2 _ _ _ _ _ (fun q hq => hu q (List.mem_cons_of_mem _ hq)) hi2 (by rw [List.length_append, List.length_append, List.length_singleton, List.length_singleton]; omega) rfl rfl rfl w6 fun ds' l' y3 y4 y5 y6' a1 a2 a3 => ?_
    refine h ds' l' y3 y4 y5 y6' a1 ?_ (a3.trans fun k => ?_)
    · rw [a2, List.length_append, List.length_append, List.length_singleton, List.length_singleton, List.length_cons]
      omega
    · rw [cf_app, cf_app, cf_app, cf_app]
      show cf l k + ((if p.1 = k then r - 4 else 0) + 0) + ((if p.1 = k then p.2 - (r - 4) else 0) + 0) + cf us k = cf l k + ((if p.1 = k then p.2 else 0) + cf us k)
      split <;> omega
theorem dat_law_made : ∀ cs P Y, con_law_made A cs P Y → runD 7 (wd_law_made A fun C fs e => Y C fs (borsAt e (ownIx 0 cs))) cs P := by
  rintro cs P Y ⟨b, t, ⟨rfl, hn, hl⟩, q⟩
  unfold wd_law_made runD
  refine seq_gen fun kk hk => ?_
  simp (maxSteps := 1000000) only [wSet, aNil, dLst, parC, okSet, List.cons_append, List.nil_append, List.length_cons, List.length_nil, List.replicate_succ, List.replicate_zero, List.getElem?_cons_zero, List.getElem?_cons_succ, List.set_cons_zero, List.set_cons_succ, true_and, Nat.reduceAdd, Nat.reduceSub, Nat.zero_add, dNotInU, dIxU, wPutU, dListU, dDu, dBinOO, dNeO, dDisp1T, dDisp2T, gDictPT, gSortT, gMaxD, dMeth, dMake, isIns, isO, OC.u.injEq]
  subst hk
  refine ⟨by decide, ?_⟩
  refine seq_gen fun kk hk => ?_
  simp (maxSteps := 1000000) only [dVar, DL.borsAt, ownIx, List.getElem?_cons_zero, List.getElem?_cons_succ, dNotInU, dIxU, wPutU, dListU, dDu, dBinOO, dNeO, dDisp1T, dDisp2T, gDictPT, gSortT, gMaxD, dMeth, dMake, isIns, isO, OC.u.injEq, wPre, wForT, kd_items, kd_len]
  refine ⟨Nat.le_trans hl (by decide), ?_⟩
  refine mad_out hn t [] [] .un .un .un .un (fun p hp => hp) .nil (by rw [List.length_nil]; omega) rfl rfl rfl rfl fun ds l x3 x4 x5 x6 hi hl2 he => ?_
  show kk _
  rw [List.length_nil, Nat.zero_add] at hl2
  rw [List.nil_append] at he
  subst hk
  refine seq_gen fun kk hk => ?_
  have dl : ds.length = l.length := Paired.length hi
  simp (maxSteps := 1000000) only [wRet, dDat, dVar, optP, dVw, dPeek, dOp1, gTuple, aNil, aCons, dLst, and_assoc, dRev, dCall, bNil, bCons, bBor, DL.cellOf, DL.borIx, DL.putB, DL.allOwn, DL.sameOwn, DL.borsAt, ownIx, Cell.view, Cell.frz, OC.frz, OC.flat, List.map_cons, List.map_nil, List.cons_append, List.nil_append, List.length_cons, List.length_nil, List.getElem?_cons_zero, List.getElem?_cons_succ, List.set_cons_zero, List.set_cons_succ, Option.bind_some, List.nodup_nil, List.nodup_cons, List.not_mem_nil, not_false_eq_true, true_and, and_true, Nat.reduceAdd, Nat.zero_add, dNotInU, dIxU, wPutU, dListU, dDu, dBinOO, dNeO, dDisp1T, dDisp2T, gDictPT, gSortT, gMaxD, dMeth, dMake, isIns, isO, OC.u.injEq, con_law_shuffled, conSh]
  refine ⟨true, ds, rfl, by omega, fun es hes => ⟨by decide, ?_⟩⟩
  refine conPick_mk rfl ⟨by simp, by simp⟩ (fun d hd => ?_)
  simp only [List.mem_cons, List.not_mem_nil, or_false] at hd
  rcases hd with rfl | rfl
  · obtain ⟨l', h1, h2, h3⟩ := itm_perm hes hi
    show con_Powers_init A [.o true (.ins A.c_Powers []), .d (.lst es)] _ _
    exact ⟨true, _, es, l', ⟨rfl, .inl rfl, h1, Nat.lt_of_lt_of_le (show l'.length < 10000 by omega) (by decide)⟩, fun fs u hp he' => q fs u hp (he'.trans (h3.trans he))⟩
  · obtain ⟨l', h1, h2, h3⟩ := itm_perm (List.reverse_perm ds) hi
    show con_Powers_init A [.o true (.ins A.c_Powers []), .d (.tup ds.reverse)] _ _
    exact ⟨true, _, _, l', ⟨rfl, .inr rfl, h1, Nat.lt_of_lt_of_le (show l'.length < 10000 by omega) (by decide)⟩, fun fs u hp he' => q fs u hp (he'.trans (h3.trans he))⟩
theorem ok_law_made (T : Txt K mg A) {TB : List (Addr × Str)} : FnOk P w K mg base (L2.CX P w) 5 A.f_law_made A.fd_law_made ["_law_pen_here", "_law_poly_here"] (SpD K TB 562949986975745 (con_law_made A)) :=
  okD (c := _) (wd := wd_law_made A) T.F_law_made sc_law_made (fun cs P Y ⟨_, _, ⟨h, _⟩, _⟩ => by rw [h]; rfl) (by exact Nat.le_of_ble_eq_true rfl) (fun cdv A1 outer s H E G M hM hr => (psCons (psSet (i := 2) sc_law_made.nd rfl (by first | exact Or.inl rfl | exact Or.inr rfl) (pcLst paNil)) (psCons (psPreS 1 (psForT 1 ownD (pgN (i := 3) sc_law_made.nd rfl (by first | exact Or.inl rfl | exact Or.inr rfl)) (psCons (psSet (i := 4) sc_law_made.nd rfl (by first | exact Or.inl rfl | exact Or.inr rfl) (PEd.cel (pdSub (PEc.dat (pcCall mono_law_draw (ok_law_draw T) (hr.mono (by decide)) passF (by rfl) T.mg_law_draw T.F_law_draw.2 (b_law_draw T) (pbBor 0 (pbCons pdInt pbNil)))) pdInt))) (psCons (psFor ownD (piSeq (PEc.dat (pcLst (paCons (pdVar 4) (paCons (pdSub (pdIxN 1 (u1 hr) (pdVar 3) (fun _ _ => rfl)) (pdVar 4)) paNil))))) (pgN (i := 5) sc_law_made.nd rfl (by first | exact Or.inl rfl | exact Or.inr rfl)) (psCons (psSet (i := 6) sc_law_made.nd rfl (by first | exact Or.inl rfl | exact Or.inr rfl) (pcCall mono_law_pick (ok_law_pick T) (hr.mono (by decide)) passF (by rfl) T.mg_law_pick T.F_law_pick.2 (b_law_pick T) (pbBor 0 (pbCons (PEc.dat (pcLst (paCons (pdVar 3) (paCons (PEc.dat (pcList (by rfl) T.no_list (pvName 3))) paNil)))) pbNil)))) (psCons (psExpr (pcAppend 2 (PEc.dat (pcCall mono_law_pick (ok_law_pick T) (hr.mono (by decide)) passF (by rfl) T.mg_law_pick T.F_law_pick.2 (b_law_pick T) (pbBor 0 (pbCons (PEc.dat (pcLst (paCons (pdTup (paCons (pdVar 6) (paCons (pdVar 5) paNil))) (paCons (PEc.dat (pcLst (paCons (pdVar 6) (paCons (pdVar 5) paNil)))) paNil)))) pbNil)))))) psNil))) psNil)))) (psCons (psRet (pcMake mono_Powers_init T.mk_Powers (ok_Powers_init T) hret_Powers_init (hr.mono (by decide)) passD (by rfl) T.mg_Powers (b_Powers_init T) (.nil) (fun _ => .nil) (paCons (PEc.dat (pcCall mono_law_pick (ok_law_pick T) (hr.mono (by decide)) passD (by rfl) T.mg_law_pick T.F_law_pick.2 (b_law_pick T) (pbBor 0 (pbCons (PEc.dat (pcLst (paCons (PEc.dat (pcCall mono_law_shuffled (ok_law_shuffled T) (hr.mono (by decide)) passD (by rfl) T.mg_law_shuffled T.F_law_shuffled.2 (b_law_shuffled T) (pbBor 0 (pbCons (pdVar 2) pbNil)))) (paCons (PEc.dat (pcTuple (by rfl) T.no_tuple (PEc.vw (pcRev (pvName 2))))) paNil)))) pbNil)))) paNil))) psNil)))) dat_law_made
end
end K13
set_option maxRecDepth 100000
set_option maxHeartbeats 4000000
namespace K13
open PySem PySem.Spec PyProof.Rows L2 DL LamX LTX
section
variable {P : Program} {w : World} {K : PySem.W.Frag} {mg : Str → Option Value} {base : Heap} {A : Adr}
/-! ### _law_wide -/
def wd_law_wide (A : Adr) (G : Addr → List (Str × DV) → List Cell → Prop) : WS := (wSeq (wRet (dOp1 gDictPT (dVw (dPre 0 (dLcTN 0 [2] (gN 2) dYes (dTup (aCons (dTup (aCons (dDat (dOp2 gMul (dVar 1) (dIxN 2 (dC (.int 0))))) (aCons (dDat (dOp2 gMul (dVar 1) (dIxN 2 (dC (.int 1))))) (aCons (dDat (dOp2 gMul (dVar 1) (dIxN 2 (dC (.int 2))))) aNil)))) (aCons (dIxN 0 (dVar 2)) aNil)))))))) wNil)
def conWi : Con := fun cs P _ => ∃ (t : Tms) (p : Nat), (cs = [.d (.dt (kdD t)), .d (.int (p : Int))] ∧ (t.map (·.1)).Nodup ∧ t.length ≤ 1000 ∧ 0 < p ∧ p ≤ 10) ∧ (∀ k ∈ t.map (·.1), Bx 3 1000 k) ∧ P (.o false (.t (kdD (strT p t)))) []
theorem mono_conWi : ConMono conWi := fun cs P P2 Y Y2 hP hY ⟨t, p, h, h2, q⟩ => ⟨t, p, h, h2, hP _ _ q⟩
def con_law_wide (A : Adr) : Con := conWi
theorem mono_law_wide : ConMono (con_law_wide A) := mono_conWi
theorem wm_ok {p : Nat} {x : Int} (hp : p ≤ 10) (h1 : -1000 ≤ x) (h2 : x ≤ 1000) : CMul (p : Int) x ∨ CMulW (p : Int) x := .inl (.inl ⟨by omega, by omega⟩)
theorem dat_law_wide : ∀ cs P Y, con_law_wide A cs P Y → runD 3 (wd_law_wide A fun C fs e => Y C fs (borsAt e (ownIx 0 cs))) cs P := by
  rintro cs P Y ⟨t, p, ⟨rfl, hn, hl, p0, p1⟩, hb, q⟩
  unfold wd_law_wide runD
  refine seq_gen fun kk hk => ?_
  simp (maxSteps := 1000000) only [wRet, dVar, optP, dVw, dOp1, and_assoc, DL.borsAt, ownIx, parC, Cell.view, OC.flat, List.cons_append, List.nil_append, List.length_cons, List.length_nil, List.replicate_succ, List.replicate_zero, List.getElem?_cons_zero, Nat.reduceAdd, Nat.reduceSub, Nat.zero_add, dNotInU, dIxU, wPutU, dListU, dDu, dBinOO, dNeO, dDisp1T, dDisp2T, gDictPT, gSortT, gMaxD, dMeth, dMake, isIns, isO, OC.u.injEq, dPre, dLcTN, kd_items, kd_len]
  refine ⟨fun v hv c hc => by cases List.mem_singleton.mp hv; cases hc; rfl, Nat.le_trans hl (by decide), ?_⟩
  refine lcB_map (e := fun p : K3 × Int => .tup (k3v p.1)) (fun q => .tup [.tup (k3v (strK p q.1)), .int q.2]) (E0 := [.d (.dt (kdD t)), .d (.int (p : Int)), .un]) t [] _ (Nat.le_trans (show 0 + t.length ≤ 1000 by omega) (by decide)) rfl (fun y hy Q' hq => ?_) (fun e he => ?_)
  · have ek := ix_kp hn hy
    obtain ⟨⟨b1, b2, b3⟩, _⟩ := hb y.1 (List.mem_map_of_mem hy)
    have e0 : ∀ E : List Cell, DL.dIxN 2 (dC (.int 0)) = DL.dIxN 2 (dC (.int 0)) := fun _ => rfl
    simp (maxSteps := 1000000) only [gN, dDat, dVar, dC, dOp2, gMul, dIxN, ixD, optP, aNil, aCons, dTup, and_assoc, okSet, Cell.view, Cell.frz, OC.frz, List.length_cons, List.length_nil, List.getElem?_cons_zero, List.getElem?_cons_succ, List.set_cons_zero, List.set_cons_succ, Option.bind_some, true_and, Nat.reduceAdd, Nat.zero_add, dNotInU, dIxU, wPutU, dListU, dDu, dBinOO, dNeO, dDisp1T, dDisp2T, gDictPT, gSortT, gMaxD, dMeth, dMake, isIns, isO, OC.u.injEq, ek, id_eq]
    exact show (CMul (p : Int) y.1.1 ∨ CMulW (p : Int) y.1.1) ∧ (CMul (p : Int) y.1.2.1 ∨ CMulW (p : Int) y.1.2.1) ∧ (CMul (p : Int) y.1.2.2 ∨ CMulW (p : Int) y.1.2.2) ∧ 3 ≤ 1000 ∧ 2 ≤ 1000 ∧ Q' (DV.tup [DV.tup (k3v (strK p y.1)), .int y.2]) _ from ⟨wm_ok p1 b1.1 b1.2, wm_ok p1 b2.1 b2.2, wm_ok p1 b3.1 b3.2, by decide, by decide, hq _ rfl⟩
  rw [List.nil_append]
  have e1 : t.map (fun q : K3 × Int => DV.tup [.tup (k3v (strK p q.1)), .int q.2]) = (strT p t).map fun q => .tup [.tup (k3v q.1), .int q.2] := by
    unfold strT
    rw [List.map_map]
    rfl
  rw [e1]
  exact ⟨_, pairs_kd _, kd_nodup (str_nodup (by omega) hn), q⟩
theorem ok_law_wide (T : Txt K mg A) {TB : List (Addr × Str)} : FnOk P w K mg base (L2.CX P w) 1 A.f_law_wide A.fd_law_wide ["_law_poly_here", "_law_p"] (SpD K TB 0 (con_law_wide A)) :=
  okD (c := _) (wd := wd_law_wide A) T.F_law_wide sc_law_wide (fun cs P Y ⟨_, _, ⟨h, _⟩, _⟩ => by rw [h]; rfl) (by exact Nat.le_of_ble_eq_true rfl) (fun cdv A1 outer s H E G M hM hr => (psCons (psRet (pcDictPT hr.units (by rfl) T.no_dict (PEc.vw (pcPre 0 (pcLcTN (own := [("_law_at", 2)]) 0 sc_law_wide.nd (blkOk_by (by rfl)) (fun _ _ _ _ _ => (pgN (i := 2) sc_law_wide.nd rfl (by first | exact Or.inl rfl | exact Or.inr rfl))) (fun _ _ _ _ _ => ptsNil) (fun _ _ _ _ _ => (pdTup (paCons (pdTup (paCons (PEc.dat (pcMul (pdVar 1) (pdIxN 2 (u1 hr) pdInt (fun _ _ => rfl)))) (paCons (PEc.dat (pcMul (pdVar 1) (pdIxN 2 (u1 hr) pdInt (fun _ _ => rfl)))) (paCons (PEc.dat (pcMul (pdVar 1) (pdIxN 2 (u1 hr) pdInt (fun _ _ => rfl)))) paNil)))) (paCons (pdIxN 0 (u1 hr) (pdVar 2) (fun _ _ => rfl)) paNil)))) s (by decide)))))) psNil)) dat_law_wide
end
end K13
set_option maxRecDepth 100000
set_option maxHeartbeats 4000000
namespace K13
open PySem PySem.Spec PyProof.Rows L2 DL LamX LTX
section
variable {P : Program} {w : World} {K : PySem.W.Frag} {mg : Str → Option Value} {base : Heap} {A : Adr}
/-! ### law -/
def wd_law (K : PySem.W.Frag) (A : Adr) (G : Addr → List (Str × DV) → List Cell → Prop) : WS := (wSeq (wSet 1 (dCall (con_law_pen A) G (bCons (dVar 0) bNil))) (wSeq (wSet 2 (dCall (con_law_pick A) G (bBor 1 (bCons (dDat (dLst (aCons (dC (.int 2)) (aCons (dC (.int 4)) (aCons (dC (.int 8)) (aCons (dC (.int 16)) (aCons (dC (.int 3)) (aCons (dC (.int 9)) (aCons (dC (.int 27)) (aCons (dC (.int 5)) (aCons (dC (.int 25)) (aCons (dC (.int 7)) aNil)))))))))))) bNil)))) (wSeq (wAsg (dDat (dCall (con_law_power A) G (bCons (dVar 2) bNil))) (gT 2 (gsCons (gN 3) (gsCons (gN 4) gsNil)))) (wSeq (wPar 5 6 (dCall (con_law_poly A) G (bBor 1 (bCons (dDat (dOp2 gAdd (dC (.int 1)) (dDat (dCall (con_law_draw A) G (bBor 1 (bCons (dC (.int 3)) bNil)))))) (bCons (dC (.int 4)) (bCons (dC (.int 5)) bNil))))) (dCall (con_law_poly A) G (bBor 1 (bCons (dDat (dOp2 gAdd (dC (.int 1)) (dDat (dCall (con_law_draw A) G (bBor 1 (bCons (dC (.int 3)) bNil)))))) (bCons (dC (.int 6)) (bCons (dC (.int 6)) bNil)))))) (wSeq (wPar 7 8 (dCall (con_law_made A) G (bBor 1 (bCons (dVar 5) bNil))) (dCall (con_law_made A) G (bBor 1 (bCons (dVar 6) bNil)))) (wSeq (wIf (dAsB (dNeO A.c_Powers (con_Powers_eq A) G (dDat (dMeth A.c_Powers "parts" (con_Powers_parts A) G [] (dDat (dBinOO A.c_Powers (con_Powers_mul A) G (dDat (dCall (con_law_made A) G (bBor 1 (bCons (dDat (dCall (con_law_wide A) G (bCons (dVar 5) (bCons (dVar 3) bNil)))) bNil)))) (dVar 8))) (aCons (dVar 3) aNil))) (dDat (dBinOO A.c_Powers (con_Powers_mul A) G (dVar 7) (dDat (dMeth A.c_Powers "parts" (con_Powers_parts A) G [] (dVar 8) (aCons (dVar 3) aNil))))))) (wSeq (wRet (dCel (dC (.bl false)))) wNil) wNil) (wSeq (wIf (dOr (tNe (dDat (dMeth A.c_Powers "constant" (con_Powers_constant A) G [] (dDat (dMeth A.c_Powers "parts" (con_Powers_parts A) G [] (dVar 8) (aCons (dVar 3) aNil))) aNil)) (dDat (dMeth A.c_Powers "constant" (con_Powers_constant A) G [] (dVar 8) aNil))) (dAsB (dNeO A.c_Powers (con_Powers_eq A) G (dDat (dMeth A.c_Powers "parts" (con_Powers_parts A) G [] (dVar 7) (aCons (dC (.int 1)) aNil))) (dVar 7)))) (wSeq (wRet (dCel (dC (.bl false)))) wNil) wNil) (wSeq (wSet 9 (dOp2 gAdd (dC (.int 1)) (dDat (dOp1 gInt (dAndV (dBl (tLt (dVar 2) (dC (.int 8)))) (dBl (tEq (dDat (dCall (con_law_draw A) G (bBor 1 (bCons (dC (.int 2)) bNil)))) (dC (.int 0))))))))) (wSeq (wSet 10 (dCall (con_law_poly A) G (bBor 1 (bCons (dVar 9) (bCons (dC (.int 1)) (bCons (dC (.int 3)) bNil)))))) (wSeq (wSet 11 (dMeth A.c_Powers "raised" (con_Powers_raised A) G [] (dDat (dCall (con_law_made A) G (bBor 1 (bCons (dVar 10) bNil)))) (aCons (dFdiv (dVar 2) (dVar 3)) aNil))) (wSeq (wSet 12 (dOp1 gDictPT (dVw (dLc [13, 14] (iData (dFld A.c_Powers "terms" (dPeek 11))) (gT 2 (gsCons (gN 13) (gsCons (gN 14) gsNil))) dYes (dTup (aCons (dTup (aCons (dDat (dOp2 gMul (dVar 3) (dIxN 13 (dC (.int 0))))) (aCons (dDat (dOp2 gMul (dVar 3) (dIxN 13 (dC (.int 1))))) (aCons (dDat (dOp2 gMul (dVar 3) (dIxN 13 (dC (.int 2))))) aNil)))) (aCons (dVar 14) aNil))))))) (wSeq (wIf (dAsB (dNeO A.c_Powers (con_Powers_eq A) G (dDat (dMeth A.c_Powers "modulo" (con_Powers_modulo A) G [] (dDat (dMeth A.c_Powers "raised" (con_Powers_raised A) G [] (dVar 11) (aCons (dVar 3) aNil))) (aCons (dVar 2) aNil))) (dDat (dMeth A.c_Powers "modulo" (con_Powers_modulo A) G [] (dDat (dCall (con_law_made A) G (bBor 1 (bCons (dVar 12) bNil)))) (aCons (dVar 2) aNil))))) (wSeq (wRet (dCel (dC (.bl false)))) wNil) wNil) (wSeq (wSet 15 (dCall (con_law_made A) G (bBor 1 (bCons (dDat (dCall (con_law_poly A) G (bBor 1 (bCons (dVar 9) (bCons (dC (.int 2)) (bCons (dC (.int 3)) bNil)))))) bNil)))) (wSeq (wPar 16 17 (dCall (con_law_draw A) G (bBor 1 (bCons (dC (.int 3)) bNil))) (dCall (con_law_draw A) G (bBor 1 (bCons (dVar 3) bNil)))) (wSeq (wSet 18 (dMeth A.c_Powers "constant" (con_Powers_constant A) G [] (dDat (dBinOO A.c_Powers (con_Powers_mul A) G (dDat (dMeth A.c_Powers "raised" (con_Powers_raised A) G [] (dVar 11) (aCons (dDat (dOp2 gAdd (dDat (dOp2 gMul (dVar 3) (dVar 16))) (dVar 17))) aNil))) (dVar 15))) aNil)) (wSeq (wSet 19 (dMeth A.c_Powers "parts" (con_Powers_parts A) G [] (dDat (dBinOO A.c_Powers (con_Powers_mul A) G (dDat (dMeth A.c_Powers "raised" (con_Powers_raised A) G [] (dVar 11) (aCons (dVar 17) aNil))) (dVar 15))) (aCons (dVar 3) aNil))) (wSeq (wRet (dCel (dBl (tEq (dMod (dDat (dOp1 gInt (dSub (dVar 18) (dDat (dMeth A.c_Powers "constant" (con_Powers_constant A) G [] (dDat (dBinOO A.c_Powers (con_Powers_mul A) G (dDat (dMeth A.c_Powers "raised" (con_Powers_raised A) G [] (dVar 11) (aCons (dVar 16) aNil))) (dVar 19))) aNil))))) (dVar 2)) (dC (.int 0)))))) wNil)))))))))))))))))
abbrev qL : Str := (envOfC "law" (defScope s_law) 0 0 .none).qual ++ "<lambda>"
abbrev xLaw (P : Program) (w : World) (K : PySem.W.Frag) (mg : Str → Option Value) (base : Heap) (A : Adr) (ca : Addr) (s : Shared) (H : Hp) (E : XK) : Cx := cxOf (L2.CX P w) P w K mg base ["_law_script", "_law_pen_here", "_law_m", "_law_p", "_law_k", "_law_one", "_law_two", "_law_w", "_law_v", "_law_letters", "_law_steps", "_law_r", "_law_wide_here", "_law_at", "_law_number", "_law_ends", "_law_n", "_law_digit", "_law_whole", "_law_part"] "law" (defScope s_law) A.f_law (.ref ca) callerA [] s H E
structure LawAt (P : Program) (w : World) (K : PySem.W.Frag) (mg : Str → Option Value) (base : Heap) (A : Adr) (ca Pt : Addr) (s : Shared) : Prop where
  T : Txt K mg A
  TB : TabB base mg ca Pt
  hr : Room 6 (callerA.deeper (envOfC "law" (defScope s_law) s.heap.objs.size A.f_law (.ref ca)))
def forBody : Stmt → List Stmt
  | .For _ _ b _ _ => b
  | _ => []
theorem pl_0 {ca Pt : Addr} {s : Shared} {H : Hp} {E : XK} {G : Addr → List (Str × DV) → List Cell → Prop} {M : Nat} {hM : M ≤ LIM} (Lw : LawAt P w K mg base A ca Pt s) :
    PSd (xLaw P w K mg base A ca s H E) ⟨E, G, [(Pt, qL)], M, hM, []⟩ ((defBody s_law).getD 0 (.Pass ⟨0, 0, 0, 0⟩)) 0 (wSet 1 (dCall (con_law_pen A) G (bCons (dVar 0) bNil))) := by
  have T := Lw.T
  have TB := Lw.TB
  have hr := Lw.hr
  have hgd : (callerA.deeper (envOfC "law" (defScope s_law) s.heap.objs.size A.f_law (.ref ca))).guards = some [] := rfl
  exact PSd.le (psSet (i := 1) sc_law.nd rfl (by first | exact Or.inl rfl | exact Or.inr rfl) (pcCall mono_law_pen (ok_law_pen T) (hr.mono (by decide)) passD (by rfl) T.mg_law_pen T.F_law_pen.2 (b_law_pen T) (pbCons (pdVar 0) pbNil))) (Nat.le_of_ble_eq_true rfl)
theorem pl_1 {ca Pt : Addr} {s : Shared} {H : Hp} {E : XK} {G : Addr → List (Str × DV) → List Cell → Prop} {M : Nat} {hM : M ≤ LIM} (Lw : LawAt P w K mg base A ca Pt s) :
    PSd (xLaw P w K mg base A ca s H E) ⟨E, G, [(Pt, qL)], M, hM, []⟩ ((defBody s_law).getD 1 (.Pass ⟨0, 0, 0, 0⟩)) 1 (wSet 2 (dCall (con_law_pick A) G (bBor 1 (bCons (dDat (dLst (aCons (dC (.int 2)) (aCons (dC (.int 4)) (aCons (dC (.int 8)) (aCons (dC (.int 16)) (aCons (dC (.int 3)) (aCons (dC (.int 9)) (aCons (dC (.int 27)) (aCons (dC (.int 5)) (aCons (dC (.int 25)) (aCons (dC (.int 7)) aNil)))))))))))) bNil)))) := by
  have T := Lw.T
  have TB := Lw.TB
  have hr := Lw.hr
  have hgd : (callerA.deeper (envOfC "law" (defScope s_law) s.heap.objs.size A.f_law (.ref ca))).guards = some [] := rfl
  exact PSd.le (psSet (i := 2) sc_law.nd rfl (by first | exact Or.inl rfl | exact Or.inr rfl) (pcCall mono_law_pick (ok_law_pick T) (hr.mono (by decide)) passD (by rfl) T.mg_law_pick T.F_law_pick.2 (b_law_pick T) (pbBor 1 (pbCons (PEc.dat (pcLst (paCons pdInt (paCons pdInt (paCons pdInt (paCons pdInt (paCons pdInt (paCons pdInt (paCons pdInt (paCons pdInt (paCons pdInt (paCons pdInt paNil)))))))))))) pbNil)))) (Nat.le_of_ble_eq_true rfl)
theorem pl_2 {ca Pt : Addr} {s : Shared} {H : Hp} {E : XK} {G : Addr → List (Str × DV) → List Cell → Prop} {M : Nat} {hM : M ≤ LIM} (Lw : LawAt P w K mg base A ca Pt s) :
    PSd (xLaw P w K mg base A ca s H E) ⟨E, G, [(Pt, qL)], M, hM, []⟩ ((defBody s_law).getD 2 (.Pass ⟨0, 0, 0, 0⟩)) 0 (wAsg (dDat (dCall (con_law_power A) G (bCons (dVar 2) bNil))) (gT 2 (gsCons (gN 3) (gsCons (gN 4) gsNil)))) := by
  have T := Lw.T
  have TB := Lw.TB
  have hr := Lw.hr
  have hgd : (callerA.deeper (envOfC "law" (defScope s_law) s.heap.objs.size A.f_law (.ref ca))).guards = some [] := rfl
  exact PSd.le (psAsg (PEc.dat (pcCall mono_law_power (ok_law_power T) (hr.mono (by decide)) passD (by rfl) T.mg_law_power T.F_law_power.2 (b_law_power T) (pbCons (pdVar 2) pbNil))) (pgT (pgsCons (pgN (i := 3) sc_law.nd rfl (by first | exact Or.inl rfl | exact Or.inr rfl)) (pgsCons (pgN (i := 4) sc_law.nd rfl (by first | exact Or.inl rfl | exact Or.inr rfl)) pgsNil))) (hw := swap_any rfl)) (Nat.le_of_ble_eq_true rfl)
theorem pl_3 {ca Pt : Addr} {s : Shared} {H : Hp} {E : XK} {G : Addr → List (Str × DV) → List Cell → Prop} {M : Nat} {hM : M ≤ LIM} (Lw : LawAt P w K mg base A ca Pt s) :
    PSd (xLaw P w K mg base A ca s H E) ⟨E, G, [(Pt, qL)], M, hM, []⟩ ((defBody s_law).getD 3 (.Pass ⟨0, 0, 0, 0⟩)) 562950020530180 (wPar 5 6 (dCall (con_law_poly A) G (bBor 1 (bCons (dDat (dOp2 gAdd (dC (.int 1)) (dDat (dCall (con_law_draw A) G (bBor 1 (bCons (dC (.int 3)) bNil)))))) (bCons (dC (.int 4)) (bCons (dC (.int 5)) bNil))))) (dCall (con_law_poly A) G (bBor 1 (bCons (dDat (dOp2 gAdd (dC (.int 1)) (dDat (dCall (con_law_draw A) G (bBor 1 (bCons (dC (.int 3)) bNil)))))) (bCons (dC (.int 6)) (bCons (dC (.int 6)) bNil)))))) := by
  have T := Lw.T
  have TB := Lw.TB
  have hr := Lw.hr
  have hgd : (callerA.deeper (envOfC "law" (defScope s_law) s.heap.objs.size A.f_law (.ref ca))).guards = some [] := rfl
  exact PSd.le (psPar (i := 5) (j := 6) sc_law.nd rfl rfl (by decide) rfl rfl (pcCall mono_law_poly (ok_law_poly T) (hr.mono (by decide)) passD (by rfl) T.mg_law_poly T.F_law_poly.2 (b_law_poly T) (pbBor 1 (pbCons (PEc.dat (pcAdd pdInt (PEc.dat (pcCall mono_law_draw (ok_law_draw T) (hr.mono (by decide)) passD (by rfl) T.mg_law_draw T.F_law_draw.2 (b_law_draw T) (pbBor 1 (pbCons pdInt pbNil)))))) (pbCons pdInt (pbCons pdInt pbNil))))) (pcCall mono_law_poly (ok_law_poly T) (hr.mono (by decide)) passD (by rfl) T.mg_law_poly T.F_law_poly.2 (b_law_poly T) (pbBor 1 (pbCons (PEc.dat (pcAdd pdInt (PEc.dat (pcCall mono_law_draw (ok_law_draw T) (hr.mono (by decide)) passD (by rfl) T.mg_law_draw T.F_law_draw.2 (b_law_draw T) (pbBor 1 (pbCons pdInt pbNil)))))) (pbCons pdInt (pbCons pdInt pbNil))))) rfl) (Nat.le_of_ble_eq_true rfl)
theorem pl_4 {ca Pt : Addr} {s : Shared} {H : Hp} {E : XK} {G : Addr → List (Str × DV) → List Cell → Prop} {M : Nat} {hM : M ≤ LIM} (Lw : LawAt P w K mg base A ca Pt s) :
    PSd (xLaw P w K mg base A ca s H E) ⟨E, G, [(Pt, qL)], M, hM, []⟩ ((defBody s_law).getD 4 (.Pass ⟨0, 0, 0, 0⟩)) 1125899973951490 (wPar 7 8 (dCall (con_law_made A) G (bBor 1 (bCons (dVar 5) bNil))) (dCall (con_law_made A) G (bBor 1 (bCons (dVar 6) bNil)))) := by
  have T := Lw.T
  have TB := Lw.TB
  have hr := Lw.hr
  have hgd : (callerA.deeper (envOfC "law" (defScope s_law) s.heap.objs.size A.f_law (.ref ca))).guards = some [] := rfl
  exact PSd.le (psPar (i := 7) (j := 8) sc_law.nd rfl rfl (by decide) rfl rfl (pcCall mono_law_made (ok_law_made T) (hr.mono (by decide)) passD (by rfl) T.mg_law_made T.F_law_made.2 (b_law_made T) (pbBor 1 (pbCons (pdVar 5) pbNil))) (pcCall mono_law_made (ok_law_made T) (hr.mono (by decide)) passD (by rfl) T.mg_law_made T.F_law_made.2 (b_law_made T) (pbBor 1 (pbCons (pdVar 6) pbNil))) rfl) (Nat.le_of_ble_eq_true rfl)
theorem pl_5 {ca Pt : Addr} {s : Shared} {H : Hp} {E : XK} {G : Addr → List (Str × DV) → List Cell → Prop} {M : Nat} {hM : M ≤ LIM} (Lw : LawAt P w K mg base A ca Pt s) :
    PSd (xLaw P w K mg base A ca s H E) ⟨E, G, [(Pt, qL)], M, hM, []⟩ ((defBody s_law).getD 5 (.Pass ⟨0, 0, 0, 0⟩)) 562949986975745 (wIf (dAsB (dNeO A.c_Powers (con_Powers_eq A) G (dDat (dMeth A.c_Powers "parts" (con_Powers_parts A) G [] (dDat (dBinOO A.c_Powers (con_Powers_mul A) G (dDat (dCall (con_law_made A) G (bBor 1 (bCons (dDat (dCall (con_law_wide A) G (bCons (dVar 5) (bCons (dVar 3) bNil)))) bNil)))) (dVar 8))) (aCons (dVar 3) aNil))) (dDat (dBinOO A.c_Powers (con_Powers_mul A) G (dVar 7) (dDat (dMeth A.c_Powers "parts" (con_Powers_parts A) G [] (dVar 8) (aCons (dVar 3) aNil))))))) (wSeq (wRet (dCel (dC (.bl false)))) wNil) wNil) := by
  have T := Lw.T
  have TB := Lw.TB
  have hr := Lw.hr
  have hgd : (callerA.deeper (envOfC "law" (defScope s_law) s.heap.objs.size A.f_law (.ref ca))).guards = some [] := rfl
  exact PSd.le (psIf (ptNeO mono_Powers_eq (numB_ok T.nb_Powers) (ok_Powers_eq T) (hr.mono (by decide)) T.me_Powers___eq__.at_ T.me_Powers___eq__.fn (b_Powers_eq T) T.nc_Powers passD (PEc.dat (pcMeth mono_Powers_parts T.cl_Powers T.me_Powers_parts (ok_Powers_parts T) (hr.mono (by decide)) passD (b_Powers_parts T) (.nil) (fun _ => .nil) (PEc.dat (pcBinOO mono_Powers_mul (numB_ok T.nb_Powers) (ok_Powers_mul T) (hr.mono (by decide)) (du_mul T.me_Powers___mul__.at_) T.me_Powers___mul__.fn (b_Powers_mul T) passD (PEc.dat (pcCall mono_law_made (ok_law_made T) (hr.mono (by decide)) passD (by rfl) T.mg_law_made T.F_law_made.2 (b_law_made T) (pbBor 1 (pbCons (PEc.dat (pcCall mono_law_wide (ok_law_wide T) (hr.mono (by decide)) passD (by rfl) T.mg_law_wide T.F_law_wide.2 (b_law_wide T) (pbCons (pdVar 5) (pbCons (pdVar 3) pbNil)))) pbNil)))) (pdVar 8))) (paCons (pdVar 3) paNil))) (PEc.dat (pcBinOO mono_Powers_mul (numB_ok T.nb_Powers) (ok_Powers_mul T) (hr.mono (by decide)) (du_mul T.me_Powers___mul__.at_) T.me_Powers___mul__.fn (b_Powers_mul T) passD (pdVar 7) (PEc.dat (pcMeth mono_Powers_parts T.cl_Powers T.me_Powers_parts (ok_Powers_parts T) (hr.mono (by decide)) passD (b_Powers_parts T) (.nil) (fun _ => .nil) (pdVar 8) (paCons (pdVar 3) paNil)))))) (psCons (psRet (PEd.cel pdBl)) psNil) psNil) (Nat.le_of_ble_eq_true rfl)
theorem pl_6 {ca Pt : Addr} {s : Shared} {H : Hp} {E : XK} {G : Addr → List (Str × DV) → List Cell → Prop} {M : Nat} {hM : M ≤ LIM} (Lw : LawAt P w K mg base A ca Pt s) :
    PSd (xLaw P w K mg base A ca s H E) ⟨E, G, [(Pt, qL)], M, hM, []⟩ ((defBody s_law).getD 6 (.Pass ⟨0, 0, 0, 0⟩)) 0 (wIf (dOr (tNe (dDat (dMeth A.c_Powers "constant" (con_Powers_constant A) G [] (dDat (dMeth A.c_Powers "parts" (con_Powers_parts A) G [] (dVar 8) (aCons (dVar 3) aNil))) aNil)) (dDat (dMeth A.c_Powers "constant" (con_Powers_constant A) G [] (dVar 8) aNil))) (dAsB (dNeO A.c_Powers (con_Powers_eq A) G (dDat (dMeth A.c_Powers "parts" (con_Powers_parts A) G [] (dVar 7) (aCons (dC (.int 1)) aNil))) (dVar 7)))) (wSeq (wRet (dCel (dC (.bl false)))) wNil) wNil) := by
  have T := Lw.T
  have TB := Lw.TB
  have hr := Lw.hr
  have hgd : (callerA.deeper (envOfC "law" (defScope s_law) s.heap.objs.size A.f_law (.ref ca))).guards = some [] := rfl
  exact PSd.le (X := xLaw P w K mg base A ca s H E) (Z := ⟨E, G, [(Pt, qL)], M, hM, []⟩) (psIf (PWd.pt (pwOr (ptNe hr.units (PEc.dat (pcMeth0 mono_Powers_constant T.cl_Powers T.me_Powers_constant (ok_Powers_constant T) (hr.mono (by decide)) passD (b_Powers_constant T) (.nil) (fun _ => .nil) (PEc.dat (pcMeth mono_Powers_parts T.cl_Powers T.me_Powers_parts (ok_Powers_parts T) (hr.mono (by decide)) passD (b_Powers_parts T) (.nil) (fun _ => .nil) (pdVar 8) (paCons (pdVar 3) paNil))))) (PEc.dat (pcMeth0 mono_Powers_constant T.cl_Powers T.me_Powers_constant (ok_Powers_constant T) (hr.mono (by decide)) passD (b_Powers_constant T) (.nil) (fun _ => .nil) (pdVar 8)))) (pwOr1 (ptNeO mono_Powers_eq (numB_ok T.nb_Powers) (ok_Powers_eq T) (hr.mono (by decide)) T.me_Powers___eq__.at_ T.me_Powers___eq__.fn (b_Powers_eq T) T.nc_Powers passD (PEc.dat (pcMeth mono_Powers_parts T.cl_Powers T.me_Powers_parts (ok_Powers_parts T) (hr.mono (by decide)) passD (b_Powers_parts T) (.nil) (fun _ => .nil) (pdVar 7) (paCons pdInt paNil))) (pdVar 7))))) (psCons (psRet (PEd.cel pdBl)) psNil) psNil) (Nat.le_of_ble_eq_true rfl)
theorem pl_7 {ca Pt : Addr} {s : Shared} {H : Hp} {E : XK} {G : Addr → List (Str × DV) → List Cell → Prop} {M : Nat} {hM : M ≤ LIM} (Lw : LawAt P w K mg base A ca Pt s) :
    PSd (xLaw P w K mg base A ca s H E) ⟨E, G, [(Pt, qL)], M, hM, []⟩ ((defBody s_law).getD 7 (.Pass ⟨0, 0, 0, 0⟩)) 1 (wSet 9 (dOp2 gAdd (dC (.int 1)) (dDat (dOp1 gInt (dAndV (dBl (tLt (dVar 2) (dC (.int 8)))) (dBl (tEq (dDat (dCall (con_law_draw A) G (bBor 1 (bCons (dC (.int 2)) bNil)))) (dC (.int 0))))))))) := by
  have T := Lw.T
  have TB := Lw.TB
  have hr := Lw.hr
  have hgd : (callerA.deeper (envOfC "law" (defScope s_law) s.heap.objs.size A.f_law (.ref ca))).guards = some [] := rfl
  exact PSd.le (psSet (i := 9) sc_law.nd rfl (by first | exact Or.inl rfl | exact Or.inr rfl) (pcAdd pdInt (PEc.dat (pcInt (by rfl) T.no_int (PEd.vw (pdAnd (pdLt (pdVar 2) pdInt) (pdOne (pdEq hr.units (PEc.dat (pcCall mono_law_draw (ok_law_draw T) (hr.mono (by decide)) passD (by rfl) T.mg_law_draw T.F_law_draw.2 (b_law_draw T) (pbBor 1 (pbCons pdInt pbNil)))) pdInt)))))))) (Nat.le_of_ble_eq_true rfl)
theorem pl_8 {ca Pt : Addr} {s : Shared} {H : Hp} {E : XK} {G : Addr → List (Str × DV) → List Cell → Prop} {M : Nat} {hM : M ≤ LIM} (Lw : LawAt P w K mg base A ca Pt s) :
    PSd (xLaw P w K mg base A ca s H E) ⟨E, G, [(Pt, qL)], M, hM, []⟩ ((defBody s_law).getD 8 (.Pass ⟨0, 0, 0, 0⟩)) 281475010265089 (wSet 10 (dCall (con_law_poly A) G (bBor 1 (bCons (dVar 9) (bCons (dC (.int 1)) (bCons (dC (.int 3)) bNil)))))) := by
  have T := Lw.T
  have TB := Lw.TB
  have hr := Lw.hr
  have hgd : (callerA.deeper (envOfC "law" (defScope s_law) s.heap.objs.size A.f_law (.ref ca))).guards = some [] := rfl
  exact PSd.le (psSet (i := 10) sc_law.nd rfl (by first | exact Or.inl rfl | exact Or.inr rfl) (pcCall mono_law_poly (ok_law_poly T) (hr.mono (by decide)) passD (by rfl) T.mg_law_poly T.F_law_poly.2 (b_law_poly T) (pbBor 1 (pbCons (pdVar 9) (pbCons pdInt (pbCons pdInt pbNil)))))) (Nat.le_of_ble_eq_true rfl)
theorem pl_9 {ca Pt : Addr} {s : Shared} {H : Hp} {E : XK} {G : Addr → List (Str × DV) → List Cell → Prop} {M : Nat} {hM : M ≤ LIM} (Lw : LawAt P w K mg base A ca Pt s) :
    PSd (xLaw P w K mg base A ca s H E) ⟨E, G, [(Pt, qL)], M, hM, []⟩ ((defBody s_law).getD 9 (.Pass ⟨0, 0, 0, 0⟩)) 562949986975745 (wSet 11 (dMeth A.c_Powers "raised" (con_Powers_raised A) G [] (dDat (dCall (con_law_made A) G (bBor 1 (bCons (dVar 10) bNil)))) (aCons (dFdiv (dVar 2) (dVar 3)) aNil))) := by
  have T := Lw.T
  have TB := Lw.TB
  have hr := Lw.hr
  have hgd : (callerA.deeper (envOfC "law" (defScope s_law) s.heap.objs.size A.f_law (.ref ca))).guards = some [] := rfl
  exact PSd.le (psSet (i := 11) sc_law.nd rfl (by first | exact Or.inl rfl | exact Or.inr rfl) (pcMeth mono_Powers_raised T.cl_Powers T.me_Powers_raised (ok_Powers_raised T) (hr.mono (by decide)) passD (b_Powers_raised T) (.nil) (fun _ => .nil) (PEc.dat (pcCall mono_law_made (ok_law_made T) (hr.mono (by decide)) passD (by rfl) T.mg_law_made T.F_law_made.2 (b_law_made T) (pbBor 1 (pbCons (pdVar 10) pbNil)))) (paCons (pdFdiv (pdVar 2) (pdVar 3)) paNil))) (Nat.le_of_ble_eq_true rfl)
theorem pl_10 {ca Pt : Addr} {s : Shared} {H : Hp} {E : XK} {G : Addr → List (Str × DV) → List Cell → Prop} {M : Nat} {hM : M ≤ LIM} (Lw : LawAt P w K mg base A ca Pt s) :
    PSd (xLaw P w K mg base A ca s H E) ⟨E, G, [(Pt, qL)], M, hM, []⟩ ((defBody s_law).getD 10 (.Pass ⟨0, 0, 0, 0⟩)) 0 (wSet 12 (dOp1 gDictPT (dVw (dLc [13, 14] (iData (dFld A.c_Powers "terms" (dPeek 11))) (gT 2 (gsCons (gN 13) (gsCons (gN 14) gsNil))) dYes (dTup (aCons (dTup (aCons (dDat (dOp2 gMul (dVar 3) (dIxN 13 (dC (.int 0))))) (aCons (dDat (dOp2 gMul (dVar 3) (dIxN 13 (dC (.int 1))))) (aCons (dDat (dOp2 gMul (dVar 3) (dIxN 13 (dC (.int 2))))) aNil)))) (aCons (dVar 14) aNil))))))) := by
  have T := Lw.T
  have TB := Lw.TB
  have hr := Lw.hr
  have hgd : (callerA.deeper (envOfC "law" (defScope s_law) s.heap.objs.size A.f_law (.ref ca))).guards = some [] := rfl
  exact PSd.le (psSet (i := 12) sc_law.nd rfl (by first | exact Or.inl rfl | exact Or.inr rfl) (pcDictPT hr.units (by rfl) T.no_dict (PEc.vw (pcLc (own := [("_law_at", 13), ("_law_number", 14)]) sc_law.nd (piSeq (pdFld T.cl_Powers T.na_Powers_terms (pvName 11))) (blkOk_by (by rfl)) (fun _ _ _ _ _ => (pgT (pgsCons (pgN (i := 13) sc_law.nd rfl (by first | exact Or.inl rfl | exact Or.inr rfl)) (pgsCons (pgN (i := 14) sc_law.nd rfl (by first | exact Or.inl rfl | exact Or.inr rfl)) pgsNil)))) (fun _ _ _ _ _ => ptsNil) (fun _ _ _ _ _ => (pdTup (paCons (pdTup (paCons (PEc.dat (pcMul (pdVar 3) (pdIxN 13 (u1 hr) pdInt (fun _ _ => rfl)))) (paCons (PEc.dat (pcMul (pdVar 3) (pdIxN 13 (u1 hr) pdInt (fun _ _ => rfl)))) (paCons (PEc.dat (pcMul (pdVar 3) (pdIxN 13 (u1 hr) pdInt (fun _ _ => rfl)))) paNil)))) (paCons (pdVar 14) paNil)))) s (by decide))))) (Nat.le_of_ble_eq_true rfl)
theorem pl_11 {ca Pt : Addr} {s : Shared} {H : Hp} {E : XK} {G : Addr → List (Str × DV) → List Cell → Prop} {M : Nat} {hM : M ≤ LIM} (Lw : LawAt P w K mg base A ca Pt s) :
    PSd (xLaw P w K mg base A ca s H E) ⟨E, G, [(Pt, qL)], M, hM, []⟩ ((defBody s_law).getD 11 (.Pass ⟨0, 0, 0, 0⟩)) 562949986975745 (wIf (dAsB (dNeO A.c_Powers (con_Powers_eq A) G (dDat (dMeth A.c_Powers "modulo" (con_Powers_modulo A) G [] (dDat (dMeth A.c_Powers "raised" (con_Powers_raised A) G [] (dVar 11) (aCons (dVar 3) aNil))) (aCons (dVar 2) aNil))) (dDat (dMeth A.c_Powers "modulo" (con_Powers_modulo A) G [] (dDat (dCall (con_law_made A) G (bBor 1 (bCons (dVar 12) bNil)))) (aCons (dVar 2) aNil))))) (wSeq (wRet (dCel (dC (.bl false)))) wNil) wNil) := by
  have T := Lw.T
  have TB := Lw.TB
  have hr := Lw.hr
  have hgd : (callerA.deeper (envOfC "law" (defScope s_law) s.heap.objs.size A.f_law (.ref ca))).guards = some [] := rfl
  exact PSd.le (psIf (ptNeO mono_Powers_eq (numB_ok T.nb_Powers) (ok_Powers_eq T) (hr.mono (by decide)) T.me_Powers___eq__.at_ T.me_Powers___eq__.fn (b_Powers_eq T) T.nc_Powers passD (PEc.dat (pcMeth mono_Powers_modulo T.cl_Powers T.me_Powers_modulo (ok_Powers_modulo T) (hr.mono (by decide)) passD (b_Powers_modulo T) (.nil) (fun _ => .nil) (PEc.dat (pcMeth mono_Powers_raised T.cl_Powers T.me_Powers_raised (ok_Powers_raised T) (hr.mono (by decide)) passD (b_Powers_raised T) (.nil) (fun _ => .nil) (pdVar 11) (paCons (pdVar 3) paNil))) (paCons (pdVar 2) paNil))) (PEc.dat (pcMeth mono_Powers_modulo T.cl_Powers T.me_Powers_modulo (ok_Powers_modulo T) (hr.mono (by decide)) passD (b_Powers_modulo T) (.nil) (fun _ => .nil) (PEc.dat (pcCall mono_law_made (ok_law_made T) (hr.mono (by decide)) passD (by rfl) T.mg_law_made T.F_law_made.2 (b_law_made T) (pbBor 1 (pbCons (pdVar 12) pbNil)))) (paCons (pdVar 2) paNil)))) (psCons (psRet (PEd.cel pdBl)) psNil) psNil) (Nat.le_of_ble_eq_true rfl)
theorem pl_12 {ca Pt : Addr} {s : Shared} {H : Hp} {E : XK} {G : Addr → List (Str × DV) → List Cell → Prop} {M : Nat} {hM : M ≤ LIM} (Lw : LawAt P w K mg base A ca Pt s) :
    PSd (xLaw P w K mg base A ca s H E) ⟨E, G, [(Pt, qL)], M, hM, []⟩ ((defBody s_law).getD 12 (.Pass ⟨0, 0, 0, 0⟩)) 844424997240834 (wSet 15 (dCall (con_law_made A) G (bBor 1 (bCons (dDat (dCall (con_law_poly A) G (bBor 1 (bCons (dVar 9) (bCons (dC (.int 2)) (bCons (dC (.int 3)) bNil)))))) bNil)))) := by
  have T := Lw.T
  have TB := Lw.TB
  have hr := Lw.hr
  have hgd : (callerA.deeper (envOfC "law" (defScope s_law) s.heap.objs.size A.f_law (.ref ca))).guards = some [] := rfl
  exact PSd.le (psSet (i := 15) sc_law.nd rfl (by first | exact Or.inl rfl | exact Or.inr rfl) (pcCall mono_law_made (ok_law_made T) (hr.mono (by decide)) passD (by rfl) T.mg_law_made T.F_law_made.2 (b_law_made T) (pbBor 1 (pbCons (PEc.dat (pcCall mono_law_poly (ok_law_poly T) (hr.mono (by decide)) passD (by rfl) T.mg_law_poly T.F_law_poly.2 (b_law_poly T) (pbBor 1 (pbCons (pdVar 9) (pbCons pdInt (pbCons pdInt pbNil)))))) pbNil)))) (Nat.le_of_ble_eq_true rfl)
theorem pl_13 {ca Pt : Addr} {s : Shared} {H : Hp} {E : XK} {G : Addr → List (Str × DV) → List Cell → Prop} {M : Nat} {hM : M ≤ LIM} (Lw : LawAt P w K mg base A ca Pt s) :
    PSd (xLaw P w K mg base A ca s H E) ⟨E, G, [(Pt, qL)], M, hM, []⟩ ((defBody s_law).getD 13 (.Pass ⟨0, 0, 0, 0⟩)) 2 (wPar 16 17 (dCall (con_law_draw A) G (bBor 1 (bCons (dC (.int 3)) bNil))) (dCall (con_law_draw A) G (bBor 1 (bCons (dVar 3) bNil)))) := by
  have T := Lw.T
  have TB := Lw.TB
  have hr := Lw.hr
  have hgd : (callerA.deeper (envOfC "law" (defScope s_law) s.heap.objs.size A.f_law (.ref ca))).guards = some [] := rfl
  exact PSd.le (psPar (i := 16) (j := 17) sc_law.nd rfl rfl (by decide) rfl rfl (pcCall mono_law_draw (ok_law_draw T) (hr.mono (by decide)) passD (by rfl) T.mg_law_draw T.F_law_draw.2 (b_law_draw T) (pbBor 1 (pbCons pdInt pbNil))) (pcCall mono_law_draw (ok_law_draw T) (hr.mono (by decide)) passD (by rfl) T.mg_law_draw T.F_law_draw.2 (b_law_draw T) (pbBor 1 (pbCons (pdVar 3) pbNil))) rfl) (Nat.le_of_ble_eq_true rfl)
theorem pl_14 {ca Pt : Addr} {s : Shared} {H : Hp} {E : XK} {G : Addr → List (Str × DV) → List Cell → Prop} {M : Nat} {hM : M ≤ LIM} (Lw : LawAt P w K mg base A ca Pt s) :
    PSd (xLaw P w K mg base A ca s H E) ⟨E, G, [(Pt, qL)], M, hM, []⟩ ((defBody s_law).getD 14 (.Pass ⟨0, 0, 0, 0⟩)) 0 (wSet 18 (dMeth A.c_Powers "constant" (con_Powers_constant A) G [] (dDat (dBinOO A.c_Powers (con_Powers_mul A) G (dDat (dMeth A.c_Powers "raised" (con_Powers_raised A) G [] (dVar 11) (aCons (dDat (dOp2 gAdd (dDat (dOp2 gMul (dVar 3) (dVar 16))) (dVar 17))) aNil))) (dVar 15))) aNil)) := by
  have T := Lw.T
  have TB := Lw.TB
  have hr := Lw.hr
  have hgd : (callerA.deeper (envOfC "law" (defScope s_law) s.heap.objs.size A.f_law (.ref ca))).guards = some [] := rfl
  exact PSd.le (psSet (i := 18) sc_law.nd rfl (by first | exact Or.inl rfl | exact Or.inr rfl) (pcMeth0 mono_Powers_constant T.cl_Powers T.me_Powers_constant (ok_Powers_constant T) (hr.mono (by decide)) passD (b_Powers_constant T) (.nil) (fun _ => .nil) (PEc.dat (pcBinOO mono_Powers_mul (numB_ok T.nb_Powers) (ok_Powers_mul T) (hr.mono (by decide)) (du_mul T.me_Powers___mul__.at_) T.me_Powers___mul__.fn (b_Powers_mul T) passD (PEc.dat (pcMeth mono_Powers_raised T.cl_Powers T.me_Powers_raised (ok_Powers_raised T) (hr.mono (by decide)) passD (b_Powers_raised T) (.nil) (fun _ => .nil) (pdVar 11) (paCons (PEc.dat (pcAdd (PEc.dat (pcMul (pdVar 3) (pdVar 16))) (pdVar 17))) paNil))) (pdVar 15))))) (Nat.le_of_ble_eq_true rfl)
theorem pl_15 {ca Pt : Addr} {s : Shared} {H : Hp} {E : XK} {G : Addr → List (Str × DV) → List Cell → Prop} {M : Nat} {hM : M ≤ LIM} (Lw : LawAt P w K mg base A ca Pt s) :
    PSd (xLaw P w K mg base A ca s H E) ⟨E, G, [(Pt, qL)], M, hM, []⟩ ((defBody s_law).getD 15 (.Pass ⟨0, 0, 0, 0⟩)) 0 (wSet 19 (dMeth A.c_Powers "parts" (con_Powers_parts A) G [] (dDat (dBinOO A.c_Powers (con_Powers_mul A) G (dDat (dMeth A.c_Powers "raised" (con_Powers_raised A) G [] (dVar 11) (aCons (dVar 17) aNil))) (dVar 15))) (aCons (dVar 3) aNil))) := by
  have T := Lw.T
  have TB := Lw.TB
  have hr := Lw.hr
  have hgd : (callerA.deeper (envOfC "law" (defScope s_law) s.heap.objs.size A.f_law (.ref ca))).guards = some [] := rfl
  exact PSd.le (psSet (i := 19) sc_law.nd rfl (by first | exact Or.inl rfl | exact Or.inr rfl) (pcMeth mono_Powers_parts T.cl_Powers T.me_Powers_parts (ok_Powers_parts T) (hr.mono (by decide)) passD (b_Powers_parts T) (.nil) (fun _ => .nil) (PEc.dat (pcBinOO mono_Powers_mul (numB_ok T.nb_Powers) (ok_Powers_mul T) (hr.mono (by decide)) (du_mul T.me_Powers___mul__.at_) T.me_Powers___mul__.fn (b_Powers_mul T) passD (PEc.dat (pcMeth mono_Powers_raised T.cl_Powers T.me_Powers_raised (ok_Powers_raised T) (hr.mono (by decide)) passD (b_Powers_raised T) (.nil) (fun _ => .nil) (pdVar 11) (paCons (pdVar 17) paNil))) (pdVar 15))) (paCons (pdVar 3) paNil))) (Nat.le_of_ble_eq_true rfl)
theorem pl_16 {ca Pt : Addr} {s : Shared} {H : Hp} {E : XK} {G : Addr → List (Str × DV) → List Cell → Prop} {M : Nat} {hM : M ≤ LIM} (Lw : LawAt P w K mg base A ca Pt s) :
    PSd (xLaw P w K mg base A ca s H E) ⟨E, G, [(Pt, qL)], M, hM, []⟩ ((defBody s_law).getD 16 (.Pass ⟨0, 0, 0, 0⟩)) 0 (wRet (dCel (dBl (tEq (dMod (dDat (dOp1 gInt (dSub (dVar 18) (dDat (dMeth A.c_Powers "constant" (con_Powers_constant A) G [] (dDat (dBinOO A.c_Powers (con_Powers_mul A) G (dDat (dMeth A.c_Powers "raised" (con_Powers_raised A) G [] (dVar 11) (aCons (dVar 16) aNil))) (dVar 19))) aNil))))) (dVar 2)) (dC (.int 0)))))) := by
  have T := Lw.T
  have TB := Lw.TB
  have hr := Lw.hr
  have hgd : (callerA.deeper (envOfC "law" (defScope s_law) s.heap.objs.size A.f_law (.ref ca))).guards = some [] := rfl
  exact PSd.le (psRet (PEd.cel (pdEq hr.units (pdMod (PEc.dat (pcInt (by rfl) T.no_int (PEd.vw (pdSub (pdVar 18) (PEc.dat (pcMeth0 mono_Powers_constant T.cl_Powers T.me_Powers_constant (ok_Powers_constant T) (hr.mono (by decide)) passD (b_Powers_constant T) (.nil) (fun _ => .nil) (PEc.dat (pcBinOO mono_Powers_mul (numB_ok T.nb_Powers) (ok_Powers_mul T) (hr.mono (by decide)) (du_mul T.me_Powers___mul__.at_) T.me_Powers___mul__.fn (b_Powers_mul T) passD (PEc.dat (pcMeth mono_Powers_raised T.cl_Powers T.me_Powers_raised (ok_Powers_raised T) (hr.mono (by decide)) passD (b_Powers_raised T) (.nil) (fun _ => .nil) (pdVar 11) (paCons (pdVar 16) paNil))) (pdVar 19))))))))) (pdVar 2)) pdInt))) (Nat.le_of_ble_eq_true rfl)
theorem pls_law {ca Pt : Addr} {s : Shared} {H : Hp} {E : XK} {G : Addr → List (Str × DV) → List Cell → Prop} {M : Nat} {hM : M ≤ LIM} (Lw : LawAt P w K mg base A ca Pt s) :
    PSSd (xLaw P w K mg base A ca s H E) ⟨E, G, [(Pt, qL)], M, hM, []⟩ (defBody s_law) 4503599962914832 (wd_law K A G) := (psCons (pl_0 Lw) (psCons (pl_1 Lw) (psCons (pl_2 Lw) (psCons (pl_3 Lw) (psCons (pl_4 Lw) (psCons (pl_5 Lw) (psCons (pl_6 Lw) (psCons (pl_7 Lw) (psCons (pl_8 Lw) (psCons (pl_9 Lw) (psCons (pl_10 Lw) (psCons (pl_11 Lw) (psCons (pl_12 Lw) (psCons (pl_13 Lw) (psCons (pl_14 Lw) (psCons (pl_15 Lw) (psCons (pl_16 Lw) psNil)))))))))))))))))
theorem ok_law (T : Txt K mg A) {ca Pt : Addr} {kV doc pm ct oc : Value} {an od : Option Addr} {osl : Array (Option Value)}
    (lk : K.lookup A.f_law = some ⟨oc, od, .func (PySem.W.fnOf "law" "law" (defArgs s_law) (defBody s_law) (defScope s_law) .none kV doc pm an (.ref ca) ct), osl⟩) (hcd : PySem.W.codeIn K (.ref ca) "law" = true) (TB : TabB base mg ca Pt)
    (hdata : ∀ cs P Y, conLaw cs P Y → runD 20 (wd_law K A fun C fs e => Y C fs (borsAt e (ownIx 0 cs))) cs P) :
    FnAt P w K mg base (L2.CX P w) 7 A.f_law (PySem.W.fnOf "law" "law" (defArgs s_law) (defBody s_law) (defScope s_law) .none kV doc pm an (.ref ca) ct) ["_law_script"] (SpD K [(Pt, qL)] 4503599962914832 conLaw) :=
  okAt (c := 4503599962914832) (wd := wd_law K A) lk hcd sc_law (fun cs P Y ⟨ns, ⟨e, _⟩, _⟩ => by rw [e]; rfl) (Nat.le_refl _) (fun s H E G M hM hr => pls_law ⟨T, TB, hr⟩) hdata
end
end K13
set_option maxRecDepth 100000
set_option maxHeartbeats 4000000
set_option exponentiation.threshold 3000
namespace K13
open PySem PySem.Spec PyProof.Rows L2 DL LamX LTX
structure Fac (K : PySem.W.Frag) (A : Adr) : Prop where
  rel : A.rel = relN [A.c_Powers]
section
variable {K : PySem.W.Frag} {A : Adr}
theorem nrm_le {c : Nat} : ∀ {u : Tms}, (∀ p ∈ u, p.2.natAbs ≤ c) → nrm u ≤ u.length * c
  | [], _ => Nat.zero_le _
  | p :: u, h => by
    rw [nrm, List.length_cons, Nat.add_mul]
    have h1 := h p List.mem_cons_self
    have h2 := nrm_le (u := u) fun q hq => h q (List.mem_cons_of_mem _ hq)
    omega
/-- the sum that is made has no more powers than the drawn one, and is as small -/
theorem made_small {t u : Tms} {m c : Nat} (hc : Can u) (he : Eqv u t) (hl : t.length ≤ m) (hn : nrm t ≤ c) : u.length ≤ m ∧ nrm u ≤ m * c := by
  have h1 : u.length ≤ m := by
    have := nodup_len (can_nodup hc) (can_keys hc he)
    rw [List.length_map, List.length_map] at this
    omega
  refine ⟨h1, ?_⟩
  have h2 : nrm u ≤ u.length * c := nrm_le fun p hp => by
    have := cf_mem (can_nodup hc) hp
    rw [← this, he]
    exact Nat.le_trans (cf_le t p.1) hn
  exact Nat.le_trans h2 (Nat.mul_le_mul_right _ h1)
theorem npow_congr {s t : Tms} (h : Eqv s t) : ∀ n, Eqv (npow s n) (npow t n)
  | 0 => Eqv.refl _
  | n + 1 => prods_congr (npow_congr h n) h
theorem rai (Fa : Fac K A) {fs : List (Str × DV)} {u : Tms} {n B : Nat} {P : Cell → List OC → Prop} {Y : Addr → List (Str × DV) → List OC → Prop} (hu : PwF fs u) (hn : n ≤ 200) (G : Grw u n) (hB : nrm u < 2 ^ B) (hBn : B * n ≤ 400000) (h : ∀ fs t, PwF fs t → Eqv t (npow u n) → P (.d (.ins A.c_Powers fs)) []) :
    fs.lookup ("raised" : Str) = none ∧ con_Powers_raised A [.d (.ins A.c_Powers fs), .d (.int (n : Int))] P Y := by
  refine ⟨?_, u, _, _, Fa.rel, ⟨rfl, ⟨fs, rfl, hu⟩⟩, .inr (.inr (.inr ⟨n, B, ⟨rfl, hn⟩, ⟨G, hB, hBn⟩, h⟩))⟩
  obtain ⟨_, ts, rs, rfl, _⟩ := hu
  rfl
theorem eqq (Fa : Fac K A) {fs gs : List (Str × DV)} {r q : Tms} {P : Cell → List OC → Prop} {Y : Addr → List (Str × DV) → List OC → Prop} (hf : PwF fs r) (hg : PwF gs q) (he : Eqv r q) (h : P (.d (.bl true)) []) : con_Powers_eq A [.d (.ins A.c_Powers fs), .d (.ins A.c_Powers gs)] P Y := by
  have := can_unique hf.1 hg.1 he
  subst this
  exact ⟨r, _, _, Fa.rel, ⟨rfl, ⟨fs, rfl, hf⟩, ⟨gs, rfl, hg⟩⟩, h⟩
def pairT2 (a b c : Int) : Tms := [((a, 0, 0), 1), ((b, 0, 0), c)]
structure Pk (m : Int) (p e : Nat) : Prop where
  pr : Pr p
  p7 : p ≤ 7
  e9 : e ≤ 9
  e1 : 1 ≤ e
  dv : m / (p : Int) = (e : Int)
  mm : m = ((p * e : Nat) : Int)
  fr : ∀ f : Tms, Cg (p * e) (npow f (p * e)) (npow (strT p f) e)
  one : e * (3 * p - 1) ≤ 72
  two : m < 8 → e * (3 * p - 1) ≤ 20
theorem pk_mk {p j : Nat} (pr : Pr p) (p7 : p ≤ 7) (e9 : p ^ j ≤ 9) (one : p ^ j * (3 * p - 1) ≤ 72) (two : p * p ^ j < 8 → p ^ j * (3 * p - 1) ≤ 20) : Pk ((p * p ^ j : Nat) : Int) p (p ^ j) := by
  have p0 := pr.pos
  have e0 : 1 ≤ p ^ j := Nat.pow_pos (by omega)
  refine ⟨pr, p7, e9, e0, ?_, rfl, fun f => ?_, one, fun h => two (by omega)⟩
  · rw [Int.natCast_mul]
    exact Int.mul_ediv_cancel_left _ (by omega)
  · have := frob_pow pr f j
    rw [Nat.pow_succ, Nat.mul_comm] at this
    exact this
theorem pk_of {m : Int} {p k : Nat} (h : (m, p, k) ∈ pws) : ∃ e, Pk m p e := by
  unfold pws at h
  simp only [List.mem_cons, List.not_mem_nil, or_false, Prod.mk.injEq] at h
  rcases h with ⟨rfl, rfl, rfl⟩ | ⟨rfl, rfl, rfl⟩ | ⟨rfl, rfl, rfl⟩ | ⟨rfl, rfl, rfl⟩ | ⟨rfl, rfl, rfl⟩ | ⟨rfl, rfl, rfl⟩ | ⟨rfl, rfl, rfl⟩ | ⟨rfl, rfl, rfl⟩ | ⟨rfl, rfl, rfl⟩ | ⟨rfl, rfl, rfl⟩
  · exact ⟨_, pk_mk (j := 0) pr2 (by decide) (by decide) (by decide) (by decide)⟩
  · exact ⟨_, pk_mk (j := 1) pr2 (by decide) (by decide) (by decide) (by decide)⟩
  · exact ⟨_, pk_mk (j := 2) pr2 (by decide) (by decide) (by decide) (by decide)⟩
  · exact ⟨_, pk_mk (j := 3) pr2 (by decide) (by decide) (by decide) (by decide)⟩
  · exact ⟨_, pk_mk (j := 0) pr3 (by decide) (by decide) (by decide) (by decide)⟩
  · exact ⟨_, pk_mk (j := 1) pr3 (by decide) (by decide) (by decide) (by decide)⟩
  · exact ⟨_, pk_mk (j := 2) pr3 (by decide) (by decide) (by decide) (by decide)⟩
  · exact ⟨_, pk_mk (j := 0) pr5 (by decide) (by decide) (by decide) (by decide)⟩
  · exact ⟨_, pk_mk (j := 1) pr5 (by decide) (by decide) (by decide) (by decide)⟩
  · exact ⟨_, pk_mk (j := 0) pr7 (by decide) (by decide) (by decide) (by decide)⟩
theorem pol {b : Bool} {r : Int} {R m : Nat} {P : Cell → List OC → Prop} {Y : Addr → List (Str × DV) → List OC → Prop} (r0 : 0 ≤ r) (h0 : 0 < m) (h1 : m ≤ 10) (h2 : R ≤ 10) (q : ∀ t : Tms, (t.map (·.1)).Nodup → t.length ≤ m → nrm t ≤ 20 * m → (∀ k ∈ t.map (·.1), Bx r.toNat R k) → P (.o false (.t (kdD t))) [.pen]) : con_law_poly A [.o b .pen, .d (.int r), .d (.int (R : Int)), .d (.int (m : Int))] P Y :=
  ⟨b, r.toNat, R, m, ⟨by rw [show ((r.toNat : Nat) : Int) = r by omega], h0, h1, h2⟩, q⟩
theorem mad {b : Bool} {t : Tms} {P : Cell → List OC → Prop} {Y : Addr → List (Str × DV) → List OC → Prop} (hn : (t.map (·.1)).Nodup) (hl : t.length ≤ 1000) (q : ∀ fs u, PwF fs u → Eqv u t → P (.o false (.ins A.c_Powers fs)) [.pen]) : con_law_made A [.o b .pen, .d (.dt (kdD t))] P Y := ⟨b, t, ⟨rfl, hn, hl⟩, q⟩
theorem bits_nrm {s : Tms} {b : Nat} (h : nrm s < 2 ^ b) (h0 : 0 < b) : Bits b s := by
  refine ⟨h0, fun p hp => Nat.lt_of_le_of_lt ?_ h⟩
  clear h h0
  induction s with
  | nil => cases hp
  | cons q s ih =>
    rw [nrm]
    rcases List.mem_cons.mp hp with rfl | hp
    · omega
    · have := ih hp; omega
theorem bits_cf {r : Tms} {b : Nat} (c : Can r) (h : ∀ k, (cf r k).natAbs < 2 ^ b) (h0 : 0 < b) : Bits b r := ⟨h0, fun p hp => by
  have h1 := cf_mem (can_nodup c) hp
  rw [← h1]
  exact h _⟩
theorem wid {t : Tms} {p : Nat} {P : Cell → List OC → Prop} {Y : Addr → List (Str × DV) → List OC → Prop} (hn : (t.map (·.1)).Nodup) (hl : t.length ≤ 1000) (p0 : 0 < p) (p1 : p ≤ 10) (hb : ∀ k ∈ t.map (·.1), Bx 3 1000 k) (q : P (.o false (.t (kdD (strT p t)))) []) : con_law_wide A [.d (.dt (kdD t)), .d (.int (p : Int))] P Y := ⟨t, p, ⟨rfl, hn, hl, p0, p1⟩, hb, q⟩
theorem bx_3 {l R : Nat} {k : K3} (h : Bx l R k) (hR : R ≤ 10) : Bx 3 1000 k := by
  obtain ⟨⟨a, b, c⟩, _, _⟩ := h
  refine ⟨⟨by omega, by omega, by omega⟩, fun h => by omega, fun h => by omega⟩
theorem mulx (Fa : Fac K A) {fs gs : List (Str × DV)} {s t : Tms} {a b b1 b2 : Nat} {P : Cell → List OC → Prop} {Y : Addr → List (Str × DV) → List OC → Prop} (hf : PwF fs s) (hg : PwF gs t) (ha : s.length ≤ a) (hb : t.length ≤ b) (hab : a * b < 16777216) (ha2 : a ≤ 16777216) (hb2 : b ≤ 16777216) (B1 : Bits b1 s) (B2 : Bits b2 t) (B3 : b1 + b2 ≤ 1000000)
    (h : ∀ fs r, PwF fs r → Eqv r (prods s t) → P (.o false (.ins A.c_Powers fs)) []) : con_Powers_mul A [.d (.ins A.c_Powers fs), .d (.ins A.c_Powers gs)] P Y :=
  ⟨s, t, _, _, b1, b2, Fa.rel, ⟨rfl, ⟨fs, rfl, hf⟩, ⟨gs, rfl, hg⟩⟩, ⟨Nat.lt_of_le_of_lt (Nat.mul_le_mul ha hb) hab, Nat.le_trans ha ha2, Nat.le_trans hb hb2⟩, ⟨B1, B2, B3⟩, h⟩
theorem prt {fs : List (Str × DV)} {t : Tms} {p : Nat} {P : Cell → List OC → Prop} {Y : Addr → List (Str × DV) → List OC → Prop} (hf : PwF fs t) (p0 : 0 < p) (p1 : p ≤ 1000) (hl : t.length ≤ 10000) (h : ∀ fs u, PwF fs u → Eqv u (ptT p t) → P (.o false (.ins A.c_Powers fs)) []) :
    fs.lookup ("parts" : Str) = none ∧ con_Powers_parts A [.d (.ins A.c_Powers fs), .d (.int (p : Int))] P Y := by
  refine ⟨?_, t, _, p, ⟨rfl, ⟨fs, rfl, hf⟩⟩, ⟨p0, p1, Nat.lt_of_le_of_lt hl (show 10000 < 16777216 by decide)⟩, h⟩
  obtain ⟨_, ts, rs, rfl, _⟩ := hf
  rfl
theorem mdl {fs : List (Str × DV)} {t : Tms} {m : Nat} {P : Cell → List OC → Prop} {Y : Addr → List (Str × DV) → List OC → Prop} (hf : PwF fs t) (m0 : 0 < m) (hl : t.length ≤ 10000) (h : ∀ fs u, PwF fs u → Eqv u (mdT m t) → P (.o false (.ins A.c_Powers fs)) []) :
    fs.lookup ("modulo" : Str) = none ∧ con_Powers_modulo A [.d (.ins A.c_Powers fs), .d (.int (m : Int))] P Y := by
  refine ⟨?_, t, _, m, ⟨rfl, ⟨fs, rfl, hf⟩⟩, ⟨m0, Nat.lt_of_le_of_lt hl (show 10000 < 16777216 by decide)⟩, h⟩
  obtain ⟨_, ts, rs, rfl, _⟩ := hf
  rfl
theorem kon {fs : List (Str × DV)} {t : Tms} {P : Cell → List OC → Prop} {Y : Addr → List (Str × DV) → List OC → Prop} (hf : PwF fs t) (h : P (.d (.int (cf t (0, 0, 0)))) []) :
    fs.lookup ("constant" : Str) = none ∧ con_Powers_constant A [.d (.ins A.c_Powers fs)] P Y := by
  refine ⟨?_, t, _, ⟨rfl, ⟨fs, rfl, hf⟩⟩, h⟩
  obtain ⟨_, ts, rs, rfl, _⟩ := hf
  rfl
theorem cg_eqv {m : Nat} {s t s' t' : Tms} (h : Cg m s t) (hs : Eqv s' s) (ht : Eqv t' t) : Cg m s' t' := by
  obtain ⟨c, e⟩ := h
  exact ⟨c, by rw [mk_of hs, mk_of ht, e]⟩
/-- the steps to a power: how large they are, and their rests -/
structure Stp (p e F : Nat) (r : Tms) : Prop where
  bx : Box e (F * e) r
  sm : ∀ N, N ≤ 3 * p - 1 → (2 * (e * N) + 1) * (2 * (F * e * N) + 1) ≤ 2000
  nr : nrm r < 2 ^ 84
  cg : Cg (p * e) (npow r p) (strT p r)
theorem stp_mk {m : Int} {p e F : Nat} {u r : Tms} (PK : Pk m p e) (hF : F = 0 ∨ (F = 1 ∧ m < 8)) (hb : Box 1 F u) (hu : nrm u ≤ 180) (hc : Can r) (he : Eqv r (npow u e)) : Stp p e F r := by
  have p1 := PK.pr.pos
  have sm : ∀ N, N ≤ 3 * p - 1 → (2 * (e * N) + 1) * (2 * (F * e * N) + 1) ≤ 2000 := fun N hN => by
    have h1 : e * N ≤ e * (3 * p - 1) := Nat.mul_le_mul_left _ hN
    rcases hF with rfl | ⟨rfl, h8⟩
    · have := PK.one
      rw [Nat.zero_mul, Nat.zero_mul]
      omega
    · have := PK.two h8
      rw [Nat.one_mul]
      exact Nat.le_trans (Nat.mul_le_mul (show 2 * (e * N) + 1 ≤ 41 by omega) (show 2 * (e * N) + 1 ≤ 41 by omega)) (by decide)
  have b1 := box_npow hb e
  rw [Nat.one_mul] at b1
  have hbx := box_eqv b1 hc he
  refine ⟨hbx, sm, ?_, ?_⟩
  · have l1 := box_len hb hc he
    have l2 := sm 1 (by omega)
    rw [Nat.mul_one, Nat.mul_one] at l2
    rw [Nat.one_mul] at l1
    have n1 := nrm_eqv hc he
    rw [nrm_npow] at n1
    have n2 : nrm u ^ e ≤ 2 ^ 72 := by
      refine Nat.le_trans (Nat.pow_le_pow_left (show nrm u ≤ 2 ^ 8 by omega) e) ?_
      rw [← Nat.pow_mul]
      exact Nat.pow_le_pow_right (by decide) (by have := PK.e9; omega)
    have n3 : r.length * nrm u ^ e ≤ 2000 * 2 ^ 72 := Nat.mul_le_mul (Nat.le_trans l1 l2) n2
    exact Nat.lt_of_le_of_lt (Nat.le_trans n1 n3) (by decide)
  · refine cg_eqv (PK.fr u) ?_ ?_
    · refine (npow_congr he p).trans ?_
      rw [Nat.mul_comm]
      exact (npow_mul u e p).symm
    · refine (str_eqv (by omega) he).trans ?_
      rw [str_npow]
      exact Eqv.refl _
theorem Stp.grw {p e F N : Nat} {r : Tms} (S : Stp p e F r) (hN : N ≤ 3 * p - 1) : Grw r N := box_grw S.bx (S.sm N hN)
theorem Stp.len {p e F a : Nat} {r x : Tms} (S : Stp p e F r) (ha : a ≤ 3 * p - 1) (c : Can x) (h : Eqv x (npow r a)) : x.length ≤ 2000 := Nat.le_trans (box_len S.bx c h) (S.sm a ha)
theorem Stp.bits {p e F a : Nat} {r x : Tms} (S : Stp p e F r) (ha : a ≤ 20) (c : Can x) (h : Eqv x (npow r a)) : Bits 2000 x := by
  have := can_bits S.nr c h
  refine ⟨by decide, fun q hq => Nat.lt_of_lt_of_le (this.2 q hq) (Nat.pow_le_pow_right (by decide) (by omega))⟩
theorem Stp.nrm {p e F a : Nat} {r x : Tms} (S : Stp p e F r) (ha : a ≤ 3 * p - 1) (ha2 : a ≤ 20) (c : Can x) (h : Eqv x (npow r a)) : nrm x ≤ 2000 * 2 ^ 1680 := by
  have n1 := nrm_eqv c h
  rw [nrm_npow] at n1
  have n2 : LTX.nrm r ^ a ≤ 2 ^ 1680 := by
    refine Nat.le_trans (Nat.pow_le_pow_left (Nat.le_of_lt S.nr) a) ?_
    rw [← Nat.pow_mul]
    exact Nat.pow_le_pow_right (by decide) (by omega)
  exact Nat.le_trans n1 (Nat.mul_le_mul (S.len ha c h) n2)
theorem bx_box {l R F : Nat} {t : Tms} (h : ∀ k ∈ t.map (·.1), Bx l R k) (hl : l ≤ 2) (hF : l ≤ 1 ∨ R ≤ F) : Box R F t := fun p hp => by
  obtain ⟨⟨a, b, c⟩, d, e⟩ := h p.1 (List.mem_map_of_mem hp)
  refine ⟨a, ?_, e hl⟩
  rcases hF with z | z
  · rw [d z]
    omega
  · omega
theorem Stp.len1 {m : Int} {p e F : Nat} {u r : Tms} (S : Stp p e F r) (PK : Pk m p e) (hF : F = 0 ∨ (F = 1 ∧ m < 8)) (hb : Box 1 F u) (hc : Can r) (he : Eqv r (npow u e)) : r.length ≤ 1000 := by
  have p1 := PK.pr.pos
  have l1 := box_len hb hc he
  have e9 := PK.e9
  rw [Nat.one_mul] at l1
  rcases hF with rfl | ⟨rfl, h8⟩
  · rw [Nat.zero_mul] at l1
    omega
  · have h2 := PK.two h8
    have h3 : e * 1 ≤ e * (3 * p - 1) := Nat.mul_le_mul_left _ (by omega)
    rw [Nat.one_mul] at l1
    have h4 : (2 * e + 1) * (2 * e + 1) ≤ 19 * 19 := Nat.mul_le_mul (by omega) (by omega)
    omega
theorem k3at0 (k : K3) : atI (k3v k) 0 = some (.int k.1) := rfl
theorem k3at1 (k : K3) : atI (k3v k) 1 = some (.int k.2.1) := rfl
theorem k3at2 (k : K3) : atI (k3v k) 2 = some (.int k.2.2) := rfl
theorem and_mid {a b c : Prop} (h : a ∧ b) (hc : c) : a ∧ c ∧ b := ⟨h.1, hc, h.2⟩
theorem dat_law (Fa : Fac K A) : ∀ cs P Y, conLaw cs P Y → runD 20 (wd_law K A fun C fs e => Y C fs (borsAt e (ownIx 0 cs))) cs P := by
  rintro cs P Y ⟨ns, ⟨rfl, hl⟩, hp⟩
  unfold wd_law runD
  refine seq_gen fun k hk => ?_
  simp (maxSteps := 1000000) only [wSet, dVar, dCall, bNil, bCons, DL.cellOf, DL.borIx, DL.putB, DL.allOwn, DL.borsAt, ownIx, parC, okSet, List.map_cons, List.map_nil, List.cons_append, List.nil_append, List.length_cons, List.length_nil, List.replicate_succ, List.replicate_zero, List.getElem?_cons_zero, List.getElem?_cons_succ, List.set_cons_zero, List.set_cons_succ, List.nodup_nil, true_and, and_true, Nat.reduceSub, Nat.zero_add]
  refine ⟨ns, ⟨rfl, by omega⟩, ?_⟩
  simp (config := { decide := false, maxSteps := 1000000 }) only [runD, wNil, wBreak, wCont, wSet, wDrop, wRet, wRetN, wIf, wFor, gN, gsNil, gsCons, gT, wAsg, wPar, dCel, dDat, dVar, dC, dOp2, dOp2d, gI2, gI0, dCmp, dBl, dAsB, gB2, gEq, dAnd, dOr, dNot, dAndV, dOrV, dNotV, gAdd, gMul, dNeg, iData, dI_lst, dI_klst, dI_tup, dI_ktup, iD_lst, iD_klst, iD_tup, iD_ktup, ln_lst, ln_klst, ln_tup, ln_ktup, iR1, iR2, iZipD, iEnumD, dYes, dLc, dIx, dIxN, ixD, optP, dVw, dPeek, dOp1, gInts, gBls, gList, gTuple, gLen, gInt, aNil, aCons, dTup, dLst, dDk, dDt, dAppend, dPop, wPutL, wPutD, DV.key, dDisp, ppN, ppC, DL.kvsOf, dPopAt, wAugI, dIf, exists_and_left, exists_and_right, exists_eq_left, exists_eq_left', exists_eq', exists_eq, exists_const, exists_false, or_false, false_or, false_and, and_false, and_assoc, Option.some.injEq, Cell.o.injEq, Cell.d.injEq, OC.k.injEq, OC.l.injEq, OC.t.injEq, OC.ins.injEq, DV.int.injEq, DV.bl.injEq, DV.str.injEq,  oNone, oSome, dSl, dSlN, gSl, dRev, dCmpV, dBlV, gIn, dIsN, gIsB, dGetN1, dGetN2, gIsi, dFld, wFld, wRaise, dChain, dCall, bNil, bCons, bBor, DL.cellOf, DL.borIx, DL.putB, DL.allOwn, DL.sameOwn, DL.borsAt, ownIx, parC, okSet, Cell.view, Cell.frz, OC.frz, OC.flat, Cell.own, Cell.bor, List.map_cons, List.map_nil, List.cons_append, List.nil_append, List.length_cons, List.length_nil, List.replicate_succ, List.replicate_zero, List.getElem?_cons_zero, List.getElem?_cons_succ, List.set_cons_zero, List.set_cons_succ, List.getD_cons_zero, List.getD_cons_succ, Option.bind_some, List.nodup_nil, List.nodup_cons, List.not_mem_nil, not_false_eq_true, true_and, and_true, if_true, if_false, ite_true, ite_false, reduceCtorEq, Nat.reduceAdd, Nat.reduceSub, Nat.zero_add, Nat.sub_self, Bool.not_true, Bool.not_false, Bool.false_eq_true, Bool.true_eq, DL.dataOf, conF, Option.map_some, Out.to]
  subst hk
  refine seq_gen fun k hk => ?_
  simp (maxSteps := 1000000) only [wSet, dDat, dC, aNil, aCons, dLst, dCall, bNil, bCons, bBor, DL.cellOf, DL.borIx, DL.allOwn, DL.sameOwn, DL.borsAt, ownIx, okSet, Cell.frz, OC.frz, List.map_cons, List.map_nil, List.length_cons, List.length_nil, List.getElem?_cons_zero, List.getElem?_cons_succ, List.nodup_nil, List.nodup_cons, List.not_mem_nil, not_false_eq_true, true_and, and_true, Nat.reduceAdd, Nat.zero_add, dNotInU, dIxU, wPutU, dListU, dDu, dBinOO, dNeO, dDisp1T, dDisp2T, gDictPT, gSortT, gMaxD, dMeth, dMake, isIns, isO, OC.u.injEq]
  refine ⟨by decide, ?_⟩
  refine conPick_mk rfl ⟨by simp, by simp⟩ fun d hd => ?_
  obtain ⟨m, p, kk, rfl, hm⟩ : ∃ (m : Int) (p kk : Nat), d = .int m ∧ (m, p, kk) ∈ pws := by
    simp only [List.mem_cons, List.not_mem_nil, or_false] at hd
    unfold pws
    rcases hd with rfl | rfl | rfl | rfl | rfl | rfl | rfl | rfl | rfl | rfl
    · exact ⟨_, 2, 1, rfl, by decide⟩
    · exact ⟨_, 2, 2, rfl, by decide⟩
    · exact ⟨_, 2, 3, rfl, by decide⟩
    · exact ⟨_, 2, 4, rfl, by decide⟩
    · exact ⟨_, 3, 1, rfl, by decide⟩
    · exact ⟨_, 3, 2, rfl, by decide⟩
    · exact ⟨_, 3, 3, rfl, by decide⟩
    · exact ⟨_, 5, 1, rfl, by decide⟩
    · exact ⟨_, 5, 2, rfl, by decide⟩
    · exact ⟨_, 7, 1, rfl, by decide⟩
  simp (maxSteps := 1000000) only [DL.putB, List.getElem?_cons_zero, List.getElem?_cons_succ, List.set_cons_zero, List.set_cons_succ, true_and, dNotInU, dIxU, wPutU, dListU, dDu, dBinOO, dNeO, dDisp1T, dDisp2T, gDictPT, gSortT, gMaxD, dMeth, dMake, isIns, isO, OC.u.injEq]
  subst hk
  refine seq_gen fun k hk => ?_
  simp (maxSteps := 1000000) only [gN, gsNil, gsCons, gT, wAsg, dDat, dVar, dCall, bNil, bCons, DL.cellOf, DL.borIx, DL.putB, DL.allOwn, DL.borsAt, ownIx, okSet, Cell.frz, OC.frz, List.map_cons, List.map_nil, List.getElem?_cons_zero, List.getElem?_cons_succ, List.set_cons_zero, List.set_cons_succ, List.nodup_nil, true_and, and_true, dNotInU, dIxU, wPutU, dListU, dDu, dBinOO, dNeO, dDisp1T, dDisp2T, gDictPT, gSortT, gMaxD, dMeth, dMake, isIns, isO, OC.u.injEq]
  unfold con_law_power conPw
  refine ⟨m, p, kk, ⟨rfl, hm⟩, ?_⟩
  simp (maxSteps := 1000000) only [List.length_cons, List.length_nil, true_and, Nat.reduceAdd, Nat.zero_add, dNotInU, dIxU, wPutU, dListU, dDu, dBinOO, dNeO, dDisp1T, dDisp2T, gDictPT, gSortT, gMaxD, dMeth, dMake, isIns, isO, OC.u.injEq]
  obtain ⟨e, PK⟩ := pk_of hm
  subst hk
  refine seq_gen fun k hk => ?_
  simp (maxSteps := 1000000) only [wPar, dDat, dC, dOp2, gAdd, and_assoc, dCall, bNil, bCons, bBor, DL.cellOf, DL.borIx, DL.putB, DL.allOwn, DL.sameOwn, DL.borsAt, ownIx, okSet, Cell.frz, List.map_cons, List.map_nil, List.getElem?_cons_zero, List.getElem?_cons_succ, List.set_cons_zero, List.set_cons_succ, List.nodup_nil, List.nodup_cons, List.not_mem_nil, not_false_eq_true, true_and, and_true, con_law_draw, conDraw, dNotInU, dIxU, wPutU, dListU, dDu, dBinOO, dNeO, dDisp1T, dDisp2T, gDictPT, gSortT, gMaxD, dMeth, dMake, isIns, isO, OC.u.injEq]
  refine ⟨by decide, by decide, fun l1 l10 l11 => ?_⟩
  refine pol (R := 4) (m := 5) (by omega) (by decide) (by decide) (by decide) fun t1 hn1 hl1 hm1 hb1 => ?_
  simp (maxSteps := 1000000) only [DL.putB, List.getElem?_cons_zero, List.getElem?_cons_succ, List.set_cons_zero, List.set_cons_succ, true_and, con_law_draw, conDraw, dNotInU, dIxU, wPutU, dListU, dDu, dBinOO, dNeO, dDisp1T, dDisp2T, gDictPT, gSortT, gMaxD, dMeth, dMake, isIns, isO, OC.u.injEq]
  refine ⟨by decide, by decide, fun l2 l20 l21 => ?_⟩
  refine pol (R := 6) (m := 6) (by omega) (by decide) (by decide) (by decide) fun t2 hn2 hl2 hm2 hb2 => ?_
  simp (maxSteps := 1000000) only [DL.putB, List.getElem?_cons_zero, List.getElem?_cons_succ, List.set_cons_zero, List.set_cons_succ, true_and, dNotInU, dIxU, wPutU, dListU, dDu, dBinOO, dNeO, dDisp1T, dDisp2T, gDictPT, gSortT, gMaxD, dMeth, dMake, isIns, isO, OC.u.injEq]
  subst hk
  refine seq_gen fun k hk => ?_
  simp (maxSteps := 1000000) only [wPar, dVar, and_assoc, dCall, bNil, bCons, bBor, DL.cellOf, DL.borIx, DL.allOwn, DL.sameOwn, DL.borsAt, ownIx, okSet, OC.frz, List.map_cons, List.map_nil, List.getElem?_cons_zero, List.getElem?_cons_succ, List.set_cons_zero, List.set_cons_succ, List.nodup_nil, List.nodup_cons, List.not_mem_nil, not_false_eq_true, true_and, and_true, dNotInU, dIxU, wPutU, dListU, dDu, dBinOO, dNeO, dDisp1T, dDisp2T, gDictPT, gSortT, gMaxD, dMeth, dMake, isIns, isO, OC.u.injEq]
  refine mad hn1 (Nat.le_trans hl1 (by decide)) fun f1 u1 h1 q1 => ?_
  simp (maxSteps := 1000000) only [DL.putB, List.getElem?_cons_zero, List.getElem?_cons_succ, List.set_cons_zero, List.set_cons_succ, true_and, dNotInU, dIxU, wPutU, dListU, dDu, dBinOO, dNeO, dDisp1T, dDisp2T, gDictPT, gSortT, gMaxD, dMeth, dMake, isIns, isO, OC.u.injEq]
  refine mad hn2 (Nat.le_trans hl2 (by decide)) fun f2 u2 h2 q2 => ?_
  simp (maxSteps := 1000000) only [DL.putB, List.getElem?_cons_zero, List.getElem?_cons_succ, List.set_cons_zero, List.set_cons_succ, true_and, dNotInU, dIxU, wPutU, dListU, dDu, dBinOO, dNeO, dDisp1T, dDisp2T, gDictPT, gSortT, gMaxD, dMeth, dMake, isIns, isO, OC.u.injEq]
  have p1 := PK.pr.pos
  have p7 := PK.p7
  have pz : (p : Int) ≠ 0 := by omega
  obtain ⟨s1, w1⟩ := made_small h1.1 q1 hl1 hm1
  obtain ⟨s2, w2⟩ := made_small h2.1 q2 hl2 hm2
  subst hk
  refine seq_gen fun k hk => ?_
  simp (maxSteps := 1000000) only [wNil, wIf, dDat, dVar, dAsB, aNil, aCons, and_assoc, dCall, bNil, bCons, bBor, DL.cellOf, DL.borIx, DL.putB, DL.allOwn, DL.sameOwn, DL.borsAt, ownIx, Cell.frz, OC.frz, List.map_cons, List.map_nil, List.cons_append, List.nil_append, List.getElem?_cons_zero, List.getElem?_cons_succ, List.nodup_nil, List.nodup_cons, List.not_mem_nil, not_false_eq_true, true_and, and_true, dNotInU, dIxU, wPutU, dListU, dDu, dBinOO, dNeO, dDisp1T, dDisp2T, gDictPT, gSortT, gMaxD, dMeth, dMake, isIns, isO, OC.u.injEq]
  refine wid hn1 (Nat.le_trans hl1 (by decide)) (by omega) (by omega) (fun k hk => bx_3 (hb1 k hk) (by decide)) ?_
  simp (config := { decide := false, maxSteps := 1000000 }) only [runD, wNil, wBreak, wCont, wSet, wDrop, wRet, wRetN, wIf, wFor, gN, gsNil, gsCons, gT, wAsg, wPar, dCel, dDat, dVar, dC, dOp2, dOp2d, gI2, gI0, dCmp, dBl, dAsB, gB2, gEq, dAnd, dOr, dNot, dAndV, dOrV, dNotV, gAdd, gMul, dNeg, iData, dI_lst, dI_klst, dI_tup, dI_ktup, iD_lst, iD_klst, iD_tup, iD_ktup, ln_lst, ln_klst, ln_tup, ln_ktup, iR1, iR2, iZipD, iEnumD, dYes, dLc, dIx, dIxN, ixD, optP, dVw, dPeek, dOp1, gInts, gBls, gList, gTuple, gLen, gInt, aNil, aCons, dTup, dLst, dDk, dDt, dAppend, dPop, wPutL, wPutD, DV.key, dDisp, ppN, ppC, DL.kvsOf, dPopAt, wAugI, dIf, exists_and_left, exists_and_right, exists_eq_left, exists_eq_left', exists_eq', exists_eq, exists_const, exists_false, or_false, false_or, false_and, and_false, and_assoc, Option.some.injEq, Cell.o.injEq, Cell.d.injEq, OC.k.injEq, OC.l.injEq, OC.t.injEq, OC.ins.injEq, DV.int.injEq, DV.bl.injEq, DV.str.injEq,  oNone, oSome, dSl, dSlN, gSl, dRev, dCmpV, dBlV, gIn, dIsN, gIsB, dGetN1, dGetN2, gIsi, dFld, wFld, wRaise, dChain, dCall, bNil, bCons, bBor, DL.cellOf, DL.borIx, DL.putB, DL.allOwn, DL.sameOwn, DL.borsAt, ownIx, parC, okSet, Cell.view, Cell.frz, OC.frz, OC.flat, Cell.own, Cell.bor, List.map_cons, List.map_nil, List.cons_append, List.nil_append, List.length_cons, List.length_nil, List.replicate_succ, List.replicate_zero, List.getElem?_cons_zero, List.getElem?_cons_succ, List.set_cons_zero, List.set_cons_succ, List.getD_cons_zero, List.getD_cons_succ, Option.bind_some, List.nodup_nil, List.nodup_cons, List.not_mem_nil, not_false_eq_true, true_and, and_true, if_true, if_false, ite_true, ite_false, reduceCtorEq, Nat.reduceAdd, Nat.reduceSub, Nat.zero_add, Nat.sub_self, Bool.not_true, Bool.not_false, Bool.false_eq_true, Bool.true_eq, DL.dataOf, conF, Option.map_some, Out.to, dNotInU, dIxU, wPutU, dListU, dDu, dBinOO, dNeO, dDisp1T, dDisp2T, gDictPT, gSortT, gMaxD, dMeth, dMake, isIns, isO, OC.u.injEq]
  refine mad (str_nodup pz hn1) (by rw [str_len]; exact Nat.le_trans hl1 (by decide)) fun f3 u3 h3 q3 => ?_
  simp (maxSteps := 1000000) only [DL.putB, List.getElem?_cons_zero, List.getElem?_cons_succ, List.set_cons_zero, List.set_cons_succ, true_and, dNotInU, dIxU, wPutU, dListU, dDu, dBinOO, dNeO, dDisp1T, dDisp2T, gDictPT, gSortT, gMaxD, dMeth, dMake, isIns, isO, OC.u.injEq]
  obtain ⟨s3, w3⟩ := made_small h3.1 q3 (m := 5) (c := 100) (by rw [str_len]; exact hl1) (by rw [str_nrm]; exact hm1)
  refine mulx Fa h3 h2 (a := 5) (b := 6) s3 s2 (by decide) (by decide) (by decide) (bits_nrm (b := 10) (Nat.lt_of_le_of_lt w3 (by decide)) (by decide)) (bits_nrm (b := 10) (Nat.lt_of_le_of_lt w2 (by decide)) (by decide)) (by decide) fun f4 u4 h4 q4 => ?_
  have l4 : u4.length ≤ 10000 := by
    have a1 := len_eqv h4.1 q4
    rw [len_prods] at a1
    have a2 := Nat.mul_le_mul s3 s2
    omega
  simp (maxSteps := 1000000) only [true_and, dNotInU, dIxU, wPutU, dListU, dDu, dBinOO, dNeO, dDisp1T, dDisp2T, gDictPT, gSortT, gMaxD, dMeth, dMake, isIns, isO, OC.u.injEq]
  refine prt (p := p) h4 (by omega) (by omega) l4 fun f5 u5 h5 q5 => ?_
  simp (maxSteps := 1000000) only [true_and, dNotInU, dIxU, wPutU, dListU, dDu, dBinOO, dNeO, dDisp1T, dDisp2T, gDictPT, gSortT, gMaxD, dMeth, dMake, isIns, isO, OC.u.injEq]
  refine prt (p := p) h2 (by omega) (by omega) (Nat.le_trans s2 (by decide)) fun f6 u6 h6 q6 => ?_
  simp (maxSteps := 1000000) only [true_and, dNotInU, dIxU, wPutU, dListU, dDu, dBinOO, dNeO, dDisp1T, dDisp2T, gDictPT, gSortT, gMaxD, dMeth, dMake, isIns, isO, OC.u.injEq]
  have e5 : Eqv u5 (prods u1 u6) := by
    have a1 : Eqv u4 (prods (strT p t1) u2) := q4.trans (prods_left u2 q3)
    have a2 := (pt_eqv pz a1).trans (pt_prods pz t1 u2)
    refine (q5.trans a2).trans (prods_congr q1.symm q6.symm)
  have l6 : u6.length ≤ 6 := by
    have a1 := len_eqv h6.1 q6
    have a2 : (ptT p u2).length ≤ u2.length := by
      unfold ptT
      rw [List.length_map]
      exact List.length_filter_le _ _
    omega
  have b6 : Bits 10 u6 := ⟨by decide, fun x hx => by
    have a1 := cf_mem (can_nodup h6.1) hx
    rw [← a1, q6, cf_pt pz]
    exact Nat.lt_of_le_of_lt (Nat.le_trans (cf_le _ _) w2) (by decide)⟩
  refine mulx Fa h1 h6 (a := 5) (b := 6) s1 l6 (by decide) (by decide) (by decide) (bits_nrm (b := 10) (Nat.lt_of_le_of_lt w1 (by decide)) (by decide)) b6 (by decide) fun f7 u7 h7 q7 => ?_
  simp (maxSteps := 1000000) only [true_and, dNotInU, dIxU, wPutU, dListU, dDu, dBinOO, dNeO, dDisp1T, dDisp2T, gDictPT, gSortT, gMaxD, dMeth, dMake, isIns, isO, OC.u.injEq]
  refine ⟨by rfl, eqq Fa h5 h7 (e5.trans q7.symm) ?_⟩
  simp (maxSteps := 1000000) only [if_false, Bool.not_true, Bool.false_eq_true, dNotInU, dIxU, wPutU, dListU, dDu, dBinOO, dNeO, dDisp1T, dDisp2T, gDictPT, gSortT, gMaxD, dMeth, dMake, isIns, isO, OC.u.injEq]
  subst hk
  refine seq_gen fun k hk => ?_
  simp (maxSteps := 1000000) only [wNil, wIf, dDat, dVar, dC, dCmp, dAsB, gEq, dOr, aNil, aCons, and_assoc, DL.borsAt, ownIx, Cell.frz, OC.frz, List.map_cons, List.map_nil, List.cons_append, List.nil_append, List.getElem?_cons_zero, List.getElem?_cons_succ, true_and, if_true, dNotInU, dIxU, wPutU, dListU, dDu, dBinOO, dNeO, dDisp1T, dDisp2T, gDictPT, gSortT, gMaxD, dMeth, dMake, isIns, isO, OC.u.injEq]
  refine prt (p := p) h2 (by omega) (by omega) (Nat.le_trans s2 (by decide)) fun f8 u8 h8 q8 => ?_
  simp (maxSteps := 1000000) only [true_and, dNotInU, dIxU, wPutU, dListU, dDu, dBinOO, dNeO, dDisp1T, dDisp2T, gDictPT, gSortT, gMaxD, dMeth, dMake, isIns, isO, OC.u.injEq]
  refine kon h8 ?_
  simp (config := { decide := false, maxSteps := 1000000 }) only [runD, wNil, wBreak, wCont, wSet, wDrop, wRet, wRetN, wIf, wFor, gN, gsNil, gsCons, gT, wAsg, wPar, dCel, dDat, dVar, dC, dOp2, dOp2d, gI2, gI0, dCmp, dBl, dAsB, gB2, gEq, dAnd, dOr, dNot, dAndV, dOrV, dNotV, gAdd, gMul, dNeg, iData, dI_lst, dI_klst, dI_tup, dI_ktup, iD_lst, iD_klst, iD_tup, iD_ktup, ln_lst, ln_klst, ln_tup, ln_ktup, iR1, iR2, iZipD, iEnumD, dYes, dLc, dIx, dIxN, ixD, optP, dVw, dPeek, dOp1, gInts, gBls, gList, gTuple, gLen, gInt, aNil, aCons, dTup, dLst, dDk, dDt, dAppend, dPop, wPutL, wPutD, DV.key, dDisp, ppN, ppC, DL.kvsOf, dPopAt, wAugI, dIf, exists_and_left, exists_and_right, exists_eq_left, exists_eq_left', exists_eq', exists_eq, exists_const, exists_false, or_false, false_or, false_and, and_false, and_assoc, Option.some.injEq, Cell.o.injEq, Cell.d.injEq, OC.k.injEq, OC.l.injEq, OC.t.injEq, OC.ins.injEq, DV.int.injEq, DV.bl.injEq, DV.str.injEq,  oNone, oSome, dSl, dSlN, gSl, dRev, dCmpV, dBlV, gIn, dIsN, gIsB, dGetN1, dGetN2, gIsi, dFld, wFld, wRaise, dChain, dCall, bNil, bCons, bBor, DL.cellOf, DL.borIx, DL.putB, DL.allOwn, DL.sameOwn, DL.borsAt, ownIx, parC, okSet, Cell.view, Cell.frz, OC.frz, OC.flat, Cell.own, Cell.bor, List.map_cons, List.map_nil, List.cons_append, List.nil_append, List.length_cons, List.length_nil, List.replicate_succ, List.replicate_zero, List.getElem?_cons_zero, List.getElem?_cons_succ, List.set_cons_zero, List.set_cons_succ, List.getD_cons_zero, List.getD_cons_succ, Option.bind_some, List.nodup_nil, List.nodup_cons, List.not_mem_nil, not_false_eq_true, true_and, and_true, if_true, if_false, ite_true, ite_false, reduceCtorEq, Nat.reduceAdd, Nat.reduceSub, Nat.zero_add, Nat.sub_self, Bool.not_true, Bool.not_false, Bool.false_eq_true, Bool.true_eq, DL.dataOf, conF, Option.map_some, Out.to, dNotInU, dIxU, wPutU, dListU, dDu, dBinOO, dNeO, dDisp1T, dDisp2T, gDictPT, gSortT, gMaxD, dMeth, dMake, isIns, isO, OC.u.injEq]
  refine kon h2 ?_
  simp (config := { decide := false, maxSteps := 1000000 }) only [runD, wNil, wBreak, wCont, wSet, wDrop, wRet, wRetN, wIf, wFor, gN, gsNil, gsCons, gT, wAsg, wPar, dCel, dDat, dVar, dC, dOp2, dOp2d, gI2, gI0, dCmp, dBl, dAsB, gB2, gEq, dAnd, dOr, dNot, dAndV, dOrV, dNotV, gAdd, gMul, dNeg, iData, dI_lst, dI_klst, dI_tup, dI_ktup, iD_lst, iD_klst, iD_tup, iD_ktup, ln_lst, ln_klst, ln_tup, ln_ktup, iR1, iR2, iZipD, iEnumD, dYes, dLc, dIx, dIxN, ixD, optP, dVw, dPeek, dOp1, gInts, gBls, gList, gTuple, gLen, gInt, aNil, aCons, dTup, dLst, dDk, dDt, dAppend, dPop, wPutL, wPutD, DV.key, dDisp, ppN, ppC, DL.kvsOf, dPopAt, wAugI, dIf, exists_and_left, exists_and_right, exists_eq_left, exists_eq_left', exists_eq', exists_eq, exists_const, exists_false, or_false, false_or, false_and, and_false, and_assoc, Option.some.injEq, Cell.o.injEq, Cell.d.injEq, OC.k.injEq, OC.l.injEq, OC.t.injEq, OC.ins.injEq, DV.int.injEq, DV.bl.injEq, DV.str.injEq,  oNone, oSome, dSl, dSlN, gSl, dRev, dCmpV, dBlV, gIn, dIsN, gIsB, dGetN1, dGetN2, gIsi, dFld, wFld, wRaise, dChain, dCall, bNil, bCons, bBor, DL.cellOf, DL.borIx, DL.putB, DL.allOwn, DL.sameOwn, DL.borsAt, ownIx, parC, okSet, Cell.view, Cell.frz, OC.frz, OC.flat, Cell.own, Cell.bor, List.map_cons, List.map_nil, List.cons_append, List.nil_append, List.length_cons, List.length_nil, List.replicate_succ, List.replicate_zero, List.getElem?_cons_zero, List.getElem?_cons_succ, List.set_cons_zero, List.set_cons_succ, List.getD_cons_zero, List.getD_cons_succ, Option.bind_some, List.nodup_nil, List.nodup_cons, List.not_mem_nil, not_false_eq_true, true_and, and_true, if_true, if_false, ite_true, ite_false, reduceCtorEq, Nat.reduceAdd, Nat.reduceSub, Nat.zero_add, Nat.sub_self, Bool.not_true, Bool.not_false, Bool.false_eq_true, Bool.true_eq, DL.dataOf, conF, Option.map_some, Out.to, dNotInU, dIxU, wPutU, dListU, dDu, dBinOO, dNeO, dDisp1T, dDisp2T, gDictPT, gSortT, gMaxD, dMeth, dMake, isIns, isO, OC.u.injEq]
  have e8 : cf u8 (0, 0, 0) = cf u2 (0, 0, 0) := by
    have a1 := cf_pt pz u2 (0, 0, 0)
    rw [strK_zero] at a1
    rw [q8, a1]
  rw [e8]
  refine ⟨ok_int 60 _, ok_int 60 _, ?_⟩
  rw [eqD_int, decide_eq_true rfl]
  simp (maxSteps := 1000000) only [if_false, Bool.not_true, Bool.false_eq_true, dNotInU, dIxU, wPutU, dListU, dDu, dBinOO, dNeO, dDisp1T, dDisp2T, gDictPT, gSortT, gMaxD, dMeth, dMake, isIns, isO, OC.u.injEq]
  refine prt (p := 1) h1 (by decide) (by decide) (Nat.le_trans s1 (by decide)) fun f9 u9 h9 q9 => ?_
  simp (maxSteps := 1000000) only [true_and, dNotInU, dIxU, wPutU, dListU, dDu, dBinOO, dNeO, dDisp1T, dDisp2T, gDictPT, gSortT, gMaxD, dMeth, dMake, isIns, isO, OC.u.injEq]
  refine ⟨by rfl, eqq Fa h9 h1 (by rw [show ((1 : Nat) : Int) = 1 from rfl, pt_one] at q9; exact q9) ?_⟩
  simp (maxSteps := 1000000) only [if_false, Bool.not_true, Bool.false_eq_true, dNotInU, dIxU, wPutU, dListU, dDu, dBinOO, dNeO, dDisp1T, dDisp2T, gDictPT, gSortT, gMaxD, dMeth, dMake, isIns, isO, OC.u.injEq]
  subst hk
  refine seq_gen fun k hk => ?_
  simp (maxSteps := 1000000) only [wSet, dDat, dVar, dC, dOp2, dCmp, dBl, gB2, gEq, dAndV, gAdd, dOp1, gInt, and_assoc, dCall, bNil, bCons, bBor, DL.cellOf, DL.borIx, DL.putB, DL.allOwn, DL.sameOwn, DL.borsAt, ownIx, okSet, Cell.frz, List.map_cons, List.map_nil, List.getElem?_cons_zero, List.getElem?_cons_succ, List.set_cons_zero, List.set_cons_succ, List.nodup_nil, List.nodup_cons, List.not_mem_nil, not_false_eq_true, true_and, and_true, if_false, Bool.false_eq_true, con_law_draw, conDraw, dNotInU, dIxU, wPutU, dListU, dDu, dBinOO, dNeO, dDisp1T, dDisp2T, gDictPT, gSortT, gMaxD, dMeth, dMake, isIns, isO, OC.u.injEq]
  suffices key : ∀ L : Int, (L = 1 ∨ (L = 2 ∧ m < 8)) → k [.d (.klst (List.map DV.int ns)), .o false .pen, .d (.int m), .d (.int p), .d (.int kk), .d (.dt (kdD t1)), .d (.dt (kdD t2)), .d (.ins A.c_Powers f1), .d (.ins A.c_Powers f2), .d (.int L), .un, .un, .un, .un, .un, .un, .un, .un, .un, .un] by
    refine ite_dec (fun hc => ⟨by decide, by decide, fun r r0 r1 => ⟨ok_int 60 _, ok_int 60 _, key _ ?_⟩⟩) (fun hc => key _ (.inl rfl))
    rw [eqD_int]
    by_cases hr : r = 0
    · subst hr
      exact .inr ⟨rfl, by simpa using hc⟩
    · rw [decide_eq_false hr]
      exact .inl rfl
  intro L hL
  obtain ⟨F, hF⟩ : ∃ F : Nat, (F = 0 ∧ L = 1) ∨ (F = 1 ∧ L = 2 ∧ m < 8) := by
    rcases hL with h | ⟨h, h2⟩
    · exact ⟨0, .inl ⟨rfl, h⟩⟩
    · exact ⟨1, .inr ⟨rfl, h, h2⟩⟩
  have hF2 : F = 0 ∨ (F = 1 ∧ m < 8) := hF.imp (fun h => h.1) fun h => ⟨h.1, h.2.2⟩
  have L0 : 0 ≤ L := by omega
  have L2 : L.toNat ≤ 2 := by omega
  subst hk
  refine seq_gen fun k hk => ?_
  simp (maxSteps := 1000000) only [wSet, dVar, dC, dCall, bNil, bCons, bBor, DL.cellOf, DL.borIx, DL.allOwn, DL.sameOwn, DL.borsAt, ownIx, okSet, List.map_cons, List.map_nil, List.getElem?_cons_zero, List.getElem?_cons_succ, List.nodup_nil, List.nodup_cons, List.not_mem_nil, not_false_eq_true, true_and, and_true, dNotInU, dIxU, wPutU, dListU, dDu, dBinOO, dNeO, dDisp1T, dDisp2T, gDictPT, gSortT, gMaxD, dMeth, dMake, isIns, isO, OC.u.injEq]
  refine pol (R := 1) (m := 3) L0 (by decide) (by decide) (by decide) fun t3 hn3 hl3 hm3 hb3 => ?_
  simp (maxSteps := 1000000) only [DL.putB, List.getElem?_cons_zero, List.getElem?_cons_succ, List.set_cons_zero, List.set_cons_succ, true_and, dNotInU, dIxU, wPutU, dListU, dDu, dBinOO, dNeO, dDisp1T, dDisp2T, gDictPT, gSortT, gMaxD, dMeth, dMake, isIns, isO, OC.u.injEq]
  subst hk
  refine seq_gen fun k hk => ?_
  simp (maxSteps := 1000000) only [wSet, dDat, dVar, dOp2d, gI2, aNil, aCons, dCall, bNil, bCons, bBor, DL.cellOf, DL.borIx, DL.allOwn, DL.sameOwn, DL.borsAt, ownIx, okSet, Cell.frz, OC.frz, List.map_cons, List.map_nil, List.cons_append, List.nil_append, List.getElem?_cons_zero, List.getElem?_cons_succ, List.set_cons_zero, List.set_cons_succ, List.nodup_nil, List.nodup_cons, List.not_mem_nil, not_false_eq_true, true_and, and_true, dNotInU, dIxU, wPutU, dListU, dDu, dBinOO, dNeO, dDisp1T, dDisp2T, gDictPT, gSortT, gMaxD, dMeth, dMake, isIns, isO, OC.u.injEq]
  refine mad hn3 (Nat.le_trans hl3 (by decide)) fun fs us hs qs => ?_
  simp (maxSteps := 1000000) only [DL.putB, List.getElem?_cons_zero, List.getElem?_cons_succ, List.set_cons_zero, List.set_cons_succ, true_and, dNotInU, dIxU, wPutU, dListU, dDu, dBinOO, dNeO, dDisp1T, dDisp2T, gDictPT, gSortT, gMaxD, dMeth, dMake, isIns, isO, OC.u.injEq]
  obtain ⟨ss, ws⟩ := made_small hs.1 qs hl3 hm3
  have bu : Box 1 F us := box_eqv (bx_box hb3 L2 (by omega)) hs.1 qs
  have e1 := PK.e1
  have e9 := PK.e9
  have gu : Grw us e := box_grw bu (by
    rw [Nat.one_mul]
    rcases hF2 with rfl | ⟨rfl, _⟩
    · rw [Nat.zero_mul]
      omega
    · rw [Nat.one_mul]
      exact Nat.le_trans (Nat.mul_le_mul (show 2 * e + 1 ≤ 19 by omega) (show 2 * e + 1 ≤ 19 by omega)) (by decide))
  rw [PK.dv]
  suffices key2 : ∀ {P' : Cell → List OC → Prop} {Y' : Addr → List (Str × DV) → List OC → Prop}, (∀ fr r, PwF fr r → Eqv r (npow us e) → P' (.d (.ins A.c_Powers fr)) []) → fs.lookup ("raised" : Str) = none ∧ CDivW m (p : Int) ∧ con_Powers_raised A [.d (.ins A.c_Powers fs), .d (.int (e : Int))] P' Y' by
    refine key2 fun fr r hr qr => ?_
    have S := stp_mk PK hF2 bu ws hr.1 qr
    have lr := S.len1 PK hF2 bu hr.1 qr
    clear key2
    subst hk
    refine seq_gen fun k hk => ?_
    have hr' := hr
    obtain ⟨hcr, ts, rs, rfl, ht⟩ := hr
    obtain ⟨xs, rfl, et, hxs⟩ := ht.un
    have br : Box 9 9 r := fun q hq => by
      obtain ⟨a, b, c⟩ := S.bx q hq
      have : F * e ≤ 9 := by
        rcases hF2 with rfl | ⟨rfl, _⟩ <;> omega
      exact ⟨by omega, by omega, c⟩
    simp (maxSteps := 1000000) only [wSet, iData, dI_tup, dLc, optP, dVw, dPeek, dOp1, dFld, okSet, Cell.view, OC.flat, List.getElem?_cons_zero, List.getElem?_cons_succ, Option.bind_some, true_and, dNotInU, dIxU, wPutU, dListU, dDu, dBinOO, dNeO, dDisp1T, dDisp2T, gDictPT, gSortT, gMaxD, dMeth, dMake, isIns, isO, OC.u.injEq, fl_terms]
    refine ⟨fun v hv c hc => by
      simp only [List.mem_cons, List.not_mem_nil, or_false] at hv
      rcases hv with rfl | rfl <;> (cases hc; rfl), ?_⟩
    refine lc_map (e := triV) (fun y => .tup [.tup (k3v (strK p y.2.1)), .int y.2.2]) (E0 := [.d (.klst (List.map DV.int ns)), .o false .pen, .d (.int m), .d (.int p), .d (.int kk), .d (.dt (kdD t1)), .d (.dt (kdD t2)), .d (.ins A.c_Powers f1), .d (.ins A.c_Powers f2), .d (.int L), .d (.dt (kdD t3)), .d (.ins A.c_Powers [("terms", .tup (xs.map triV)), ("reach", rs)]), .un, .un, .un, .un, .un, .un, .un, .un]) xs [] _ rfl (fun y hy Q' hq => ?_) (fun e' he => ?_)
    · obtain ⟨y1, yk, yn⟩ := y
      have hk := hxs _ hy
      have hb := br (yk, yn) (by rw [← et]; exact List.mem_map_of_mem (f := (·.2)) hy)
      dsimp only at hk hq hb ⊢
      have e1 : triV (y1, yk, yn) = .tup [y1, .int yn] := rfl
      rw [e1]
      obtain ⟨b1, b2, b3⟩ := hb
      have m1 : CMul (p : Int) yk.1 ∨ CMulW (p : Int) yk.1 := wm_ok (by omega) (by omega) (by omega)
      have m2 : CMul (p : Int) yk.2.1 ∨ CMulW (p : Int) yk.2.1 := wm_ok (by omega) (by omega) (by omega)
      have m3 : CMul (p : Int) yk.2.2 ∨ CMulW (p : Int) yk.2.2 := wm_ok (by omega) (by omega) (by omega)
      rcases hk with rfl | rfl
      all_goals
        simp (maxSteps := 1000000) only [gN, gsNil, gsCons, gT, dDat, dVar, dC, dOp2, gMul, dIxN, ixD, optP, aNil, aCons, dTup, okSet, Cell.view, Cell.frz, List.length_cons, List.length_nil, List.getElem?_cons_zero, List.getElem?_cons_succ, List.set_cons_zero, List.set_cons_succ, Option.bind_some, true_and, Nat.reduceAdd, Nat.zero_add, dNotInU, dIxU, wPutU, dListU, dDu, dBinOO, dNeO, dDisp1T, dDisp2T, gDictPT, gSortT, gMaxD, dMeth, dMake, isIns, isO, OC.u.injEq, at20, k3at0, k3at1, k3at2]
        exact ⟨m1, m2, m3, by decide, by decide, hq _ rfl⟩
    rw [List.nil_append, ← back_wipe, he]
    have e1 : xs.map (fun y : Tri => DV.tup [.tup (k3v (strK p y.2.1)), .int y.2.2]) = (strT p r).map fun q => .tup [.tup (k3v q.1), .int q.2] := by
      rw [← et]
      unfold strT
      rw [List.map_map, List.map_map]
      rfl
    rw [e1]
    refine ⟨_, pairs_kd _, kd_nodup (str_nodup pz (can_nodup hcr)), ?_⟩
    simp (maxSteps := 1000000) only [List.getElem?_cons_zero, List.getElem?_cons_succ, List.set_cons_zero, List.set_cons_succ, List.getD_cons_zero, List.getD_cons_succ, true_and, backD]
    subst hk
    refine seq_gen fun k hk => ?_
    generalize hfr : ([("terms", .tup (xs.map triV)), ("reach", rs)] : List (Str × DV)) = fr at hr'
    simp (maxSteps := 1000000) only [wNil, wIf, dDat, dVar, dAsB, aNil, aCons, and_assoc, dCall, bNil, bCons, bBor, DL.cellOf, DL.borIx, DL.allOwn, DL.sameOwn, DL.borsAt, ownIx, Cell.frz, OC.frz, List.map_cons, List.map_nil, List.cons_append, List.nil_append, List.getElem?_cons_zero, List.getElem?_cons_succ, List.set_cons_zero, List.set_cons_succ, List.nodup_nil, List.nodup_cons, List.not_mem_nil, not_false_eq_true, true_and, and_true, dNotInU, dIxU, wPutU, dListU, dDu, dBinOO, dNeO, dDisp1T, dDisp2T, gDictPT, gSortT, gMaxD, dMeth, dMake, isIns, isO, OC.u.injEq]
    have pS : p ≤ 3 * p - 1 := by omega
    refine rai Fa hr' (show p ≤ 200 by omega) (S.grw pS) (B := 84) S.nr (by omega) fun fa ra ha qa => ?_
    simp (maxSteps := 1000000) only [true_and, dNotInU, dIxU, wPutU, dListU, dDu, dBinOO, dNeO, dDisp1T, dDisp2T, gDictPT, gSortT, gMaxD, dMeth, dMake, isIns, isO, OC.u.injEq]
    have ml : m = ((p * e : Nat) : Int) := PK.mm
    have m0 : 0 < p * e := Nat.mul_pos (by omega) (by omega)
    rw [ml]
    refine mdl (m := p * e) ha m0 (Nat.le_trans (S.len pS ha.1 qa) (by decide)) fun fb rb hb qb => ?_
    simp (maxSteps := 1000000) only [true_and, dNotInU, dIxU, wPutU, dListU, dDu, dBinOO, dNeO, dDisp1T, dDisp2T, gDictPT, gSortT, gMaxD, dMeth, dMake, isIns, isO, OC.u.injEq]
    refine mad (str_nodup pz (can_nodup hcr)) (by rw [str_len]; exact lr) fun fc rc hc qc => ?_
    simp (maxSteps := 1000000) only [DL.putB, List.getElem?_cons_zero, List.getElem?_cons_succ, List.set_cons_zero, List.set_cons_succ, true_and, dNotInU, dIxU, wPutU, dListU, dDu, dBinOO, dNeO, dDisp1T, dDisp2T, gDictPT, gSortT, gMaxD, dMeth, dMake, isIns, isO, OC.u.injEq]
    refine mdl (m := p * e) hc m0 (Nat.le_trans (len_eqv hc.1 qc) (by rw [str_len]; omega)) fun fd rd hd qd => ?_
    simp (config := { decide := false, maxSteps := 1000000 }) only [runD, wNil, wBreak, wCont, wSet, wDrop, wRet, wRetN, wIf, wFor, gN, gsNil, gsCons, gT, wAsg, wPar, dCel, dDat, dVar, dC, dOp2, dOp2d, gI2, gI0, dCmp, dBl, dAsB, gB2, gEq, dAnd, dOr, dNot, dAndV, dOrV, dNotV, gAdd, gMul, dNeg, iData, dI_lst, dI_klst, dI_tup, dI_ktup, iD_lst, iD_klst, iD_tup, iD_ktup, ln_lst, ln_klst, ln_tup, ln_ktup, iR1, iR2, iZipD, iEnumD, dYes, dLc, dIx, dIxN, ixD, optP, dVw, dPeek, dOp1, gInts, gBls, gList, gTuple, gLen, gInt, aNil, aCons, dTup, dLst, dDk, dDt, dAppend, dPop, wPutL, wPutD, DV.key, dDisp, ppN, ppC, DL.kvsOf, dPopAt, wAugI, dIf, exists_and_left, exists_and_right, exists_eq_left, exists_eq_left', exists_eq', exists_eq, exists_const, exists_false, or_false, false_or, false_and, and_false, and_assoc, Option.some.injEq, Cell.o.injEq, Cell.d.injEq, OC.k.injEq, OC.l.injEq, OC.t.injEq, OC.ins.injEq, DV.int.injEq, DV.bl.injEq, DV.str.injEq,  oNone, oSome, dSl, dSlN, gSl, dRev, dCmpV, dBlV, gIn, dIsN, gIsB, dGetN1, dGetN2, gIsi, dFld, wFld, wRaise, dChain, dCall, bNil, bCons, bBor, DL.cellOf, DL.borIx, DL.putB, DL.allOwn, DL.sameOwn, DL.borsAt, ownIx, parC, okSet, Cell.view, Cell.frz, OC.frz, OC.flat, Cell.own, Cell.bor, List.map_cons, List.map_nil, List.cons_append, List.nil_append, List.length_cons, List.length_nil, List.replicate_succ, List.replicate_zero, List.getElem?_cons_zero, List.getElem?_cons_succ, List.set_cons_zero, List.set_cons_succ, List.getD_cons_zero, List.getD_cons_succ, Option.bind_some, List.nodup_nil, List.nodup_cons, List.not_mem_nil, not_false_eq_true, true_and, and_true, if_true, if_false, ite_true, ite_false, reduceCtorEq, Nat.reduceAdd, Nat.reduceSub, Nat.zero_add, Nat.sub_self, Bool.not_true, Bool.not_false, Bool.false_eq_true, Bool.true_eq, DL.dataOf, conF, Option.map_some, Out.to, dNotInU, dIxU, wPutU, dListU, dDu, dBinOO, dNeO, dDisp1T, dDisp2T, gDictPT, gSortT, gMaxD, dMeth, dMake, isIns, isO, OC.u.injEq]
    refine ⟨by rfl, eqq Fa hb hd ((qb.trans (cg_md S.cg (can_nodup ha.1) (can_nodup hc.1) qa qc)).trans qd.symm) ?_⟩
    simp (maxSteps := 1000000) only [if_false, Bool.not_true, Bool.false_eq_true, dNotInU, dIxU, wPutU, dListU, dDu, dBinOO, dNeO, dDisp1T, dDisp2T, gDictPT, gSortT, gMaxD, dMeth, dMake, isIns, isO, OC.u.injEq]
    subst hk
    refine seq_gen fun k hk => ?_
    simp (maxSteps := 1000000) only [wSet, dDat, dVar, dC, dCall, bNil, bCons, bBor, DL.cellOf, DL.borIx, DL.allOwn, DL.sameOwn, DL.borsAt, ownIx, okSet, Cell.frz, OC.frz, List.map_cons, List.map_nil, List.getElem?_cons_zero, List.getElem?_cons_succ, List.nodup_nil, List.nodup_cons, List.not_mem_nil, not_false_eq_true, true_and, and_true, dNotInU, dIxU, wPutU, dListU, dDu, dBinOO, dNeO, dDisp1T, dDisp2T, gDictPT, gSortT, gMaxD, dMeth, dMake, isIns, isO, OC.u.injEq]
    refine pol (R := 2) (m := 3) L0 (by decide) (by decide) (by decide) fun t4 hn4 hl4 hm4 hb4 => ?_
    simp (maxSteps := 1000000) only [DL.putB, List.getElem?_cons_zero, List.getElem?_cons_succ, List.set_cons_zero, List.set_cons_succ, true_and, dNotInU, dIxU, wPutU, dListU, dDu, dBinOO, dNeO, dDisp1T, dDisp2T, gDictPT, gSortT, gMaxD, dMeth, dMake, isIns, isO, OC.u.injEq]
    refine mad hn4 (Nat.le_trans hl4 (by decide)) fun fe ue hE qe => ?_
    simp (maxSteps := 1000000) only [DL.putB, List.getElem?_cons_zero, List.getElem?_cons_succ, List.set_cons_zero, List.set_cons_succ, true_and, dNotInU, dIxU, wPutU, dListU, dDu, dBinOO, dNeO, dDisp1T, dDisp2T, gDictPT, gSortT, gMaxD, dMeth, dMake, isIns, isO, OC.u.injEq]
    obtain ⟨se, we⟩ := made_small hE.1 qe hl4 hm4
    have Be : Bits 10 ue := bits_nrm (b := 10) (Nat.lt_of_le_of_lt we (by decide)) (by decide)
    subst hk
    refine seq_gen fun k hk => ?_
    simp (maxSteps := 1000000) only [wPar, dVar, dC, and_assoc, dCall, bNil, bCons, bBor, DL.cellOf, DL.borIx, DL.putB, DL.allOwn, DL.sameOwn, okSet, List.map_cons, List.map_nil, List.getElem?_cons_zero, List.getElem?_cons_succ, List.set_cons_zero, List.set_cons_succ, List.nodup_nil, List.nodup_cons, List.not_mem_nil, not_false_eq_true, true_and, and_true, con_law_draw, conDraw, dNotInU, dIxU, wPutU, dListU, dDu, dBinOO, dNeO, dDisp1T, dDisp2T, gDictPT, gSortT, gMaxD, dMeth, dMake, isIns, isO, OC.u.injEq]
    refine ⟨by decide, by decide, fun n n0 n3 => ?_⟩
    refine ⟨by omega, log_small (by omega), fun d d0 d1 => ?_⟩
    subst hk
    refine seq_gen fun k hk => ?_
    simp (maxSteps := 1000000) only [wSet, dDat, dVar, dOp2, gAdd, gMul, aNil, aCons, DL.borsAt, ownIx, okSet, Cell.frz, OC.frz, List.map_cons, List.map_nil, List.cons_append, List.nil_append, List.getElem?_cons_zero, List.getElem?_cons_succ, List.set_cons_zero, List.set_cons_succ, true_and, and_true, dNotInU, dIxU, wPutU, dListU, dDu, dBinOO, dNeO, dDisp1T, dDisp2T, gDictPT, gSortT, gMaxD, dMeth, dMake, isIns, isO, OC.u.injEq]
    obtain ⟨N, rfl⟩ : ∃ N : Nat, n = N := ⟨n.toNat, by omega⟩
    obtain ⟨D, rfl⟩ : ∃ D : Nat, d = D := ⟨d.toNat, by omega⟩
    have aN : p * N + D ≤ 3 * p - 1 := by
      have : p * N ≤ p * 2 := Nat.mul_le_mul_left _ (by omega)
      omega
    have pw : CMul (p : Int) N ∨ CMulW (p : Int) N := wm_ok (by omega) (by omega) (by omega)
    rw [show (p : Int) * (N : Int) + (D : Int) = ((p * N + D : Nat) : Int) by rw [Int.natCast_add, Int.natCast_mul]]
    refine and_mid (rai Fa hr' (by omega) (S.grw aN) (B := 84) S.nr (by omega) fun fw rw_ hw qw => ?_) pw
    simp (maxSteps := 1000000) only [true_and, dNotInU, dIxU, wPutU, dListU, dDu, dBinOO, dNeO, dDisp1T, dDisp2T, gDictPT, gSortT, gMaxD, dMeth, dMake, isIns, isO, OC.u.injEq]
    have lw := S.len aN hw.1 qw
    have l4 : (2000 : Nat) * 3 < 16777216 := by decide
    refine mulx Fa hw hE (a := 2000) (b := 3) lw se l4 (by decide) (by decide) (S.bits (by omega) hw.1 qw) Be (by decide) fun fx rx hx qx => ?_
    simp (maxSteps := 1000000) only [true_and, dNotInU, dIxU, wPutU, dListU, dDu, dBinOO, dNeO, dDisp1T, dDisp2T, gDictPT, gSortT, gMaxD, dMeth, dMake, isIns, isO, OC.u.injEq]
    refine kon hx ?_
    subst hk
    refine seq_gen fun k hk => ?_
    simp (maxSteps := 1000000) only [wSet, dDat, dVar, aNil, aCons, DL.borsAt, ownIx, okSet, Cell.frz, OC.frz, List.map_cons, List.map_nil, List.cons_append, List.nil_append, List.getElem?_cons_zero, List.getElem?_cons_succ, List.set_cons_zero, List.set_cons_succ, true_and, and_true, dNotInU, dIxU, wPutU, dListU, dDu, dBinOO, dNeO, dDisp1T, dDisp2T, gDictPT, gSortT, gMaxD, dMeth, dMake, isIns, isO, OC.u.injEq]
    have aD : D ≤ 3 * p - 1 := by omega
    refine rai Fa hr' (by omega) (S.grw aD) (B := 84) S.nr (by omega) fun fy ry hy qy => ?_
    simp (maxSteps := 1000000) only [true_and, dNotInU, dIxU, wPutU, dListU, dDu, dBinOO, dNeO, dDisp1T, dDisp2T, gDictPT, gSortT, gMaxD, dMeth, dMake, isIns, isO, OC.u.injEq]
    have ly := S.len aD hy.1 qy
    refine mulx Fa hy hE (a := 2000) (b := 3) ly se l4 (by decide) (by decide) (S.bits (by omega) hy.1 qy) Be (by decide) fun fz rz hz qz => ?_
    simp (maxSteps := 1000000) only [true_and, dNotInU, dIxU, wPutU, dListU, dDu, dBinOO, dNeO, dDisp1T, dDisp2T, gDictPT, gSortT, gMaxD, dMeth, dMake, isIns, isO, OC.u.injEq]
    have lz : rz.length ≤ 6000 := by
      have a1 := len_eqv hz.1 qz
      rw [len_prods] at a1
      have a2 := Nat.mul_le_mul ly se
      omega
    refine prt (p := p) hz (by omega) (by omega) (Nat.le_trans lz (by decide)) fun ft rt ht qt => ?_
    subst hk
    refine seq_gen fun k hk => ?_
    simp (maxSteps := 1000000) only [wRet, dCel, dDat, dVar, dC, dOp2d, gI2, gI0, dCmp, dBl, gEq, dOp1, gInt, aNil, aCons, and_assoc, DL.borsAt, ownIx, Cell.frz, OC.frz, List.map_cons, List.map_nil, List.cons_append, List.nil_append, List.getElem?_cons_zero, List.getElem?_cons_succ, List.set_cons_zero, List.set_cons_succ, true_and, and_true, if_false, Bool.false_eq_true, dNotInU, dIxU, wPutU, dListU, dDu, dBinOO, dNeO, dDisp1T, dDisp2T, gDictPT, gSortT, gMaxD, dMeth, dMake, isIns, isO, OC.u.injEq]
    have aM : N ≤ 3 * p - 1 := by omega
    refine rai Fa hr' (by omega) (S.grw aM) (B := 84) S.nr (by omega) fun fv rv hv qv => ?_
    simp (maxSteps := 1000000) only [true_and, dNotInU, dIxU, wPutU, dListU, dDu, dBinOO, dNeO, dDisp1T, dDisp2T, gDictPT, gSortT, gMaxD, dMeth, dMake, isIns, isO, OC.u.injEq]
    have lv := S.len aM hv.1 qv
    have lt : rt.length ≤ 6000 := by
      have a1 := len_eqv ht.1 qt
      have a2 : (ptT p rz).length ≤ rz.length := by
        unfold ptT
        rw [List.length_map]
        exact List.length_filter_le _ _
      omega
    have bt : Bits 1800 rt := bits_cf ht.1 (fun k => by
      rw [qt, cf_pt pz, qz]
      refine Nat.lt_of_le_of_lt (cf_le _ _) ?_
      rw [nrm_prods]
      exact Nat.lt_of_le_of_lt (Nat.mul_le_mul (S.nrm aD (by omega) hy.1 qy) we) (by decide)) (by decide)
    refine mulx Fa hv ht (a := 2000) (b := 6000) lv lt (by decide) (by decide) (by decide) (S.bits (by omega) hv.1 qv) bt (by decide) fun fo ro ho qo => ?_
    simp (maxSteps := 1000000) only [true_and, dNotInU, dIxU, wPutU, dListU, dDu, dBinOO, dNeO, dDisp1T, dDisp2T, gDictPT, gSortT, gMaxD, dMeth, dMake, isIns, isO, OC.u.injEq]
    refine kon ho ?_
    simp (config := { decide := false, maxSteps := 1000000 }) only [runD, wNil, wBreak, wCont, wSet, wDrop, wRet, wRetN, wIf, wFor, gN, gsNil, gsCons, gT, wAsg, wPar, dCel, dDat, dVar, dC, dOp2, dOp2d, gI2, gI0, dCmp, dBl, dAsB, gB2, gEq, dAnd, dOr, dNot, dAndV, dOrV, dNotV, gAdd, gMul, dNeg, iData, dI_lst, dI_klst, dI_tup, dI_ktup, iD_lst, iD_klst, iD_tup, iD_ktup, ln_lst, ln_klst, ln_tup, ln_ktup, iR1, iR2, iZipD, iEnumD, dYes, dLc, dIx, dIxN, ixD, optP, dVw, dPeek, dOp1, gInts, gBls, gList, gTuple, gLen, gInt, aNil, aCons, dTup, dLst, dDk, dDt, dAppend, dPop, wPutL, wPutD, DV.key, dDisp, ppN, ppC, DL.kvsOf, dPopAt, wAugI, dIf, exists_and_left, exists_and_right, exists_eq_left, exists_eq_left', exists_eq', exists_eq, exists_const, exists_false, or_false, false_or, false_and, and_false, and_assoc, Option.some.injEq, Cell.o.injEq, Cell.d.injEq, OC.k.injEq, OC.l.injEq, OC.t.injEq, OC.ins.injEq, DV.int.injEq, DV.bl.injEq, DV.str.injEq,  oNone, oSome, dSl, dSlN, gSl, dRev, dCmpV, dBlV, gIn, dIsN, gIsB, dGetN1, dGetN2, gIsi, dFld, wFld, wRaise, dChain, dCall, bNil, bCons, bBor, DL.cellOf, DL.borIx, DL.putB, DL.allOwn, DL.sameOwn, DL.borsAt, ownIx, parC, okSet, Cell.view, Cell.frz, OC.frz, OC.flat, Cell.own, Cell.bor, List.map_cons, List.map_nil, List.cons_append, List.nil_append, List.length_cons, List.length_nil, List.replicate_succ, List.replicate_zero, List.getElem?_cons_zero, List.getElem?_cons_succ, List.set_cons_zero, List.set_cons_succ, List.getD_cons_zero, List.getD_cons_succ, Option.bind_some, List.nodup_nil, List.nodup_cons, List.not_mem_nil, not_false_eq_true, true_and, and_true, if_true, if_false, ite_true, ite_false, reduceCtorEq, Nat.reduceAdd, Nat.reduceSub, Nat.zero_add, Nat.sub_self, Bool.not_true, Bool.not_false, Bool.false_eq_true, Bool.true_eq, DL.dataOf, conF, Option.map_some, Out.to, dNotInU, dIxU, wPutU, dListU, dDu, dBinOO, dNeO, dDisp1T, dDisp2T, gDictPT, gSortT, gMaxD, dMeth, dMake, isIns, isO, OC.u.injEq]
    have x1 : cf rx (0, 0, 0) = cf (prods (npow r (p * N + D)) ue) (0, 0, 0) := (qx.trans (prods_left ue qw)) _
    have x2 : cf ro (0, 0, 0) = cf (prods (npow r N) (ptT p (prods (npow r D) ue))) (0, 0, 0) :=
      (qo.trans (prods_congr qv (qt.trans (pt_eqv pz (qz.trans (prods_left ue qy)))))) _
    refine ⟨by omega, ok_int 60 _, ok_int 60 _, ?_⟩
    rw [eqD_int, x1, x2, digit_ok pz S.cg N D, decide_eq_true rfl]
    exact hp
  intro P' Y' q
  have z := rai (P := P') (Y := Y') Fa hs (show e ≤ 200 by omega) gu (B := 8) (Nat.lt_of_le_of_lt ws (by decide)) (by omega) q
  exact ⟨z.1, ⟨by omega, log_small (by omega)⟩, z.2⟩
end
end K13
set_option maxRecDepth 100000
set_option maxHeartbeats 4000000
namespace K13
open PySem PySem.Spec PyProof.Rows L2 DL LamX LTX
def ga_ (K : PySem.W.Frag) : Addr := He.ga K "law"
theorem facts_ {P : Program} {w : World} {K : PySem.W.Frag} {h : Heap} {mg : Str → Option Value} (X : K.In h) (G : h.Ns mainGlobals mg) (c : SaysY fa_ fn_ tf_ ex_ h K) :
    ∃ A : Adr, Txt K mg A ∧ Fac K A ∧ A.f_law = ga_ K := by
  obtain ⟨d0, D0⟩ := c.d.def_ 0 rfl
  obtain ⟨d1, D1⟩ := c.d.def_ 1 rfl
  obtain ⟨d2, D2⟩ := c.d.def_ 2 rfl
  obtain ⟨d3, D3⟩ := c.d.def_ 3 rfl
  obtain ⟨d4, D4⟩ := c.d.def_ 4 rfl
  obtain ⟨d5, D5⟩ := c.d.def_ 5 rfl
  obtain ⟨d6, D6⟩ := c.d.def_ 6 rfl
  obtain ⟨d7, D7⟩ := c.d.def_ 7 rfl
  obtain ⟨d8, D8⟩ := c.d.def_ 8 rfl
  obtain ⟨d9, D9⟩ := c.d.def_ 9 rfl
  obtain ⟨d10, D10⟩ := c.d.def_ 10 rfl
  obtain ⟨d11, D11⟩ := c.d.def_ 11 rfl
  obtain ⟨d12, D12⟩ := c.d.def_ 12 rfl
  obtain ⟨d13, D13⟩ := c.d.def_ 13 rfl
  obtain ⟨d14, D14⟩ := c.d.def_ 14 rfl
  obtain ⟨d15, D15⟩ := c.d.def_ 15 rfl
  obtain ⟨d16, D16⟩ := c.d.def_ 16 rfl
  obtain ⟨d17, D17⟩ := c.d.def_ 17 rfl
  obtain ⟨d18, D18⟩ := c.d.def_ 18 rfl
  obtain ⟨d19, D19⟩ := c.d.def_ 19 rfl
  obtain ⟨d20, D20⟩ := c.d.def_ 20 rfl
  obtain ⟨d21, D21⟩ := c.d.def_ 21 rfl
  obtain ⟨d22, D22⟩ := c.d.def_ 22 rfl
  obtain ⟨d23, D23⟩ := c.d.def_ 23 rfl
  obtain ⟨d24, D24⟩ := c.d.def_ 24 rfl
  obtain ⟨d25, D25⟩ := c.d.def_ 25 rfl
  have ex := c.more
  obtain ⟨x0, ex⟩ := and_t ex
  obtain ⟨x1, ex⟩ := and_t ex
  obtain ⟨x2, ex⟩ := and_t ex
  obtain ⟨x3, ex⟩ := and_t ex
  obtain ⟨x4, ex⟩ := and_t ex
  obtain ⟨x5, ex⟩ := and_t ex
  obtain ⟨x6, ex⟩ := and_t ex
  have x7 := ex
  exact ⟨{ rel := relN [(He.ga K "Powers")], c_CountError := He.ga K "CountError", c_BadNumber := He.ga K "BadNumber", c_BadRow := He.ga K "BadRow", c_Powers := He.ga K "Powers", c_TooLarge := He.ga K "TooLarge", a_ORIGIN := He.ga K "ORIGIN", f_BadNumber_init := He.ma K (He.ga K "BadNumber") "__init__", fd_BadNumber_init := d0, f_BadRow_init := He.ma K (He.ga K "BadRow") "__init__", fd_BadRow_init := d1, f_TooLarge_init := He.ma K (He.ga K "TooLarge") "__init__", fd_TooLarge_init := d2, f_is_number := He.ga K "is_number", fd_is_number := d3, f_are_exponents := He.ga K "are_exponents", fd_are_exponents := d4, f_need_exponents := He.ga K "need_exponents", fd_need_exponents := d5, f_need_from := He.ga K "need_from", fd_need_from := d6, f_terms_of := He.ga K "terms_of", fd_terms_of := d7, f_products := He.ga K "products", fd_products := d8, f_Powers_init := He.ma K (He.ga K "Powers") "__init__", fd_Powers_init := d9, f_Powers_mul := He.ma K (He.ga K "Powers") "__mul__", fd_Powers_mul := d10, f_Powers_eq := He.ma K (He.ga K "Powers") "__eq__", fd_Powers_eq := d11, f_Powers_raised := He.ma K (He.ga K "Powers") "raised", fd_Powers_raised := d12, f_Powers_part_at := He.ma K (He.ga K "Powers") "part_at", fd_Powers_part_at := d13, f_Powers_constant := He.ma K (He.ga K "Powers") "constant", fd_Powers_constant := d14, f_Powers_parts := He.ma K (He.ga K "Powers") "parts", fd_Powers_parts := d15, f_Powers_modulo := He.ma K (He.ga K "Powers") "modulo", fd_Powers_modulo := d16, f_law_pen := He.ga K "_law_pen", fd_law_pen := d17, f_law_draw := He.ga K "_law_draw", fd_law_draw := d18, f_law_pick := He.ga K "_law_pick", fd_law_pick := d19, f_law_power := He.ga K "_law_power", fd_law_power := d20, f_law_poly := He.ga K "_law_poly", fd_law_poly := d21, f_law_shuffled := He.ga K "_law_shuffled", fd_law_shuffled := d22, f_law_made := He.ga K "_law_made", fd_law_made := d23, f_law_wide := He.ga K "_law_wide", fd_law_wide := d24, f_law := He.ga K "law", fd_law := d25 },
    { rel := (relN_ok fun C h => by
        simp only [List.mem_cons, List.not_mem_nil, or_false] at h
        rcases h with rfl
        · exact ⟨isiB_ok (He.cls_ok (c.d.fact 36 (f := .cls "Powers") rfl)) x4, x5⟩),
      ini := ⟨He.glo_ok X G (c.d.fact 1 (f := .glo "CountError") rfl), baseB_ok x3⟩,
      nc_Powers := ⟨x5, isiB_ok (He.cls_ok (c.d.fact 36 (f := .cls "Powers") rfl)) x4⟩,
      nb_Powers := x6,
      mg_BadNumber := He.glo_ok X G (c.d.fact 2 (f := .glo "BadNumber") rfl),
      mg_BadRow := He.glo_ok X G (c.d.fact 3 (f := .glo "BadRow") rfl),
      mg_Powers := He.glo_ok X G (c.d.fact 14 (f := .glo "Powers") rfl),
      mg_TooLarge := He.glo_ok X G (c.d.fact 4 (f := .glo "TooLarge") rfl),
      mg_MOST := He.int_ok X G (c.d.fact 6 (f := .int "MOST" 200) rfl),
      mg_ORIGIN := He.glo_ok X G (c.d.fact 5 (f := .glo "ORIGIN") rfl),
      h_ORIGIN := fun F => (datB_ok (F := F) 9 _ _ x7).2,
      no_abs := He.free_ok X G (c.d.fact 24 (f := .free "abs") rfl),
      no_all := He.free_ok X G (c.d.fact 25 (f := .free "all") rfl),
      no_bool := He.free_ok X G (c.d.fact 26 (f := .free "bool") rfl),
      no_dict := He.free_ok X G (c.d.fact 27 (f := .free "dict") rfl),
      no_int := He.free_ok X G (c.d.fact 28 (f := .free "int") rfl),
      no_isinstance := He.free_ok X G (c.d.fact 29 (f := .free "isinstance") rfl),
      no_len := He.free_ok X G (c.d.fact 30 (f := .free "len") rfl),
      no_list := He.free_ok X G (c.d.fact 31 (f := .free "list") rfl),
      no_max := He.free_ok X G (c.d.fact 32 (f := .free "max") rfl),
      no_range := He.free_ok X G (c.d.fact 33 (f := .free "range") rfl),
      no_sorted := He.free_ok X G (c.d.fact 34 (f := .free "sorted") rfl),
      no_tuple := He.free_ok X G (c.d.fact 35 (f := .free "tuple") rfl),
      F_BadNumber_init := fun_of (st := s_BadNumber_init) D0,
      F_BadRow_init := fun_of (st := s_BadRow_init) D1,
      F_TooLarge_init := fun_of (st := s_TooLarge_init) D2,
      mg_is_number := He.glo_ok X G (c.d.fact 7 (f := .glo "is_number") rfl),
      F_is_number := fun_of (st := s_is_number) D3,
      mg_are_exponents := He.glo_ok X G (c.d.fact 8 (f := .glo "are_exponents") rfl),
      F_are_exponents := fun_of (st := s_are_exponents) D4,
      mg_need_exponents := He.glo_ok X G (c.d.fact 9 (f := .glo "need_exponents") rfl),
      F_need_exponents := fun_of (st := s_need_exponents) D5,
      mg_need_from := He.glo_ok X G (c.d.fact 10 (f := .glo "need_from") rfl),
      F_need_from := fun_of (st := s_need_from) D6,
      mg_terms_of := He.glo_ok X G (c.d.fact 11 (f := .glo "terms_of") rfl),
      F_terms_of := fun_of (st := s_terms_of) D7,
      mg_products := He.glo_ok X G (c.d.fact 13 (f := .glo "products") rfl),
      F_products := fun_of (st := s_products) D8,
      F_Powers_init := fun_of (st := s_Powers_init) D9,
      F_Powers_mul := fun_of (st := s_Powers_mul) D10,
      F_Powers_eq := fun_of (st := s_Powers_eq) D11,
      F_Powers_raised := fun_of (st := s_Powers_raised) D12,
      F_Powers_part_at := fun_of (st := s_Powers_part_at) D13,
      F_Powers_constant := fun_of (st := s_Powers_constant) D14,
      F_Powers_parts := fun_of (st := s_Powers_parts) D15,
      F_Powers_modulo := fun_of (st := s_Powers_modulo) D16,
      mg_law_pen := He.glo_ok X G (c.d.fact 15 (f := .glo "_law_pen") rfl),
      F_law_pen := fun_of (st := s_law_pen) D17,
      mg_law_draw := He.glo_ok X G (c.d.fact 16 (f := .glo "_law_draw") rfl),
      F_law_draw := fun_of (st := s_law_draw) D18,
      mg_law_pick := He.glo_ok X G (c.d.fact 17 (f := .glo "_law_pick") rfl),
      F_law_pick := fun_of (st := s_law_pick) D19,
      mg_law_power := He.glo_ok X G (c.d.fact 18 (f := .glo "_law_power") rfl),
      F_law_power := fun_of (st := s_law_power) D20,
      mg_law_poly := He.glo_ok X G (c.d.fact 19 (f := .glo "_law_poly") rfl),
      F_law_poly := fun_of (st := s_law_poly) D21,
      mg_law_shuffled := He.glo_ok X G (c.d.fact 21 (f := .glo "_law_shuffled") rfl),
      F_law_shuffled := fun_of (st := s_law_shuffled) D22,
      mg_law_made := He.glo_ok X G (c.d.fact 20 (f := .glo "_law_made") rfl),
      F_law_made := fun_of (st := s_law_made) D23,
      mg_law_wide := He.glo_ok X G (c.d.fact 22 (f := .glo "_law_wide") rfl),
      F_law_wide := fun_of (st := s_law_wide) D24,
      mg_law := He.glo_ok X G (c.d.fact 23 (f := .glo "law") rfl),
      F_law := fun_of (st := s_law) D25,
      cl_Powers := He.cls_ok (c.d.fact 36 (f := .cls "Powers") rfl),
      na_Powers_reach := He.noat_ok (c.d.fact 37 (f := .noat "Powers" "reach") rfl),
      na_Powers_terms := He.noat_ok (c.d.fact 38 (f := .noat "Powers" "terms") rfl),
      me_Powers___eq__ := He.meth_ok (c.d.fact 39 (f := .meth "Powers" "__eq__") rfl),
      me_Powers___mul__ := He.meth_ok (c.d.fact 40 (f := .meth "Powers" "__mul__") rfl),
      me_Powers_constant := He.meth_ok (c.d.fact 41 (f := .meth "Powers" "constant") rfl),
      me_Powers_modulo := He.meth_ok (c.d.fact 42 (f := .meth "Powers" "modulo") rfl),
      me_Powers_part_at := He.meth_ok (c.d.fact 43 (f := .meth "Powers" "part_at") rfl),
      me_Powers_parts := He.meth_ok (c.d.fact 44 (f := .meth "Powers" "parts") rfl),
      me_Powers_raised := He.meth_ok (c.d.fact 45 (f := .meth "Powers" "raised") rfl),
      mk_Powers := He.mkr_ok (c.d.fact 46 (f := .mkr "Powers") rfl),
      er_BadNumber := errB_ok x0,
      er_BadRow := errB_ok x1,
      er_TooLarge := errB_ok x2 },
    ⟨rfl⟩, rfl⟩
theorem at_ {w : World} {K : PySem.W.Frag} {h : Heap} {mg : Str → Option Value} {f : Addr} (X : K.In h) (G : h.Ns mainGlobals mg) (hfa : mg ("law" : Str) = some (.ref f)) (c : SaysY fa_ fn_ tf_ ex_ h K) :
    LawAtA PySem.Challenge.rw_restcounts_k13_whole_parts_of_products w K (L2.CX PySem.Challenge.pw_restcounts_k13_whole_parts_of_products w) 7 63 "_law_script" mg f h := by
  obtain ⟨A, T, Fa, eA⟩ := facts_ (P := PySem.Challenge.pw_restcounts_k13_whole_parts_of_products) (w := w) X G c
  have e := hfa.symm.trans T.mg_law
  cases e
  obtain ⟨oc, od, kV, doc, pm, an, cdv, ct, osl, efd, lk, hcd⟩ := T.F_law.ex
  obtain ⟨ca, rfl⟩ := He.codeIn_ref hcd
  have b := b_law T
  rw [efd] at lk b
  have m0 : (("law" : Str), (none : Option Str)) ∈ tf_ := List.mem_cons_self
  have eg : A.f_law = He.fAd K (("law" : Str), (none : Option Str)) := eA
  have ec : He.codeOf K (("law" : Str), (none : Option Str)) = ca := He.codeOf_eq (by rw [← eg]; exact lk) rfl
  have hd := c.hd _ m0
  have ho := c.out _ m0
  have he := c.empty _ m0
  have e1 : (He.cT K (("law" : Str), (none : Option Str))).1 = ca := ec
  generalize hP : (He.cT K (("law" : Str), (none : Option Str))).2 = Pt at hd ho he
  rw [e1] at hd
  refine ⟨_, [(ca, Pt)], SpD K [(Pt, qL)] 4503599962914832 conLaw, ⟨fun p hp => ?_, fun p hp => ?_, fun p hp => ?_⟩, fun s v => .of_eq rfl, fun H a ns hl _ hT hS => ?_, fun base _ _ hTB => ok_law T lk hcd (hTB _ List.mem_cons_self) (dat_law Fa)⟩
  · rw [List.mem_singleton.mp hp]
    exact he
  · rw [List.mem_singleton.mp hp]
    exact ho
  · rw [List.mem_singleton.mp hp]
    exact PySem.W.codeHd_of_K X hd
  · refine law_sp (by decide) H a ns hl (fun p hp => ?_) hS
    rw [List.mem_singleton.mp hp]
    exact hT (ca, Pt) List.mem_cons_self
end K13
open PySem PySem.W PySem.Calls PyProof.Rows
set_option maxRecDepth 100000 in
set_option maxHeartbeats 0 in
theorem PySem.Challenge.cw_restcounts_k13_whole_parts_of_products_holds : PySem.Challenge.rw_restcounts_k13_whole_parts_of_products.Holds := by
  w_on; o_law
  refine HandSHeadRun.head_any (r := OpenLaw.row PySem.Challenge.rw_restcounts_k13_whole_parts_of_products) (q := view (OpenLaw.row PySem.Challenge.rw_restcounts_k13_whole_parts_of_products).prog [26]) (H := K13.hk_) (ob := K13.ob_) (M := 5000) (loose := (("_wall" : PySem.Str) :: ("CountError" : PySem.Str) :: ("BadNumber" : PySem.Str) :: ("BadRow" : PySem.Str) :: ("TooLarge" : PySem.Str) :: ("ORIGIN" : PySem.Str) :: ("MOST" : PySem.Str) :: ("is_number" : PySem.Str) :: ("are_exponents" : PySem.Str) :: ("need_exponents" : PySem.Str) :: ("need_from" : PySem.Str) :: ("terms_of" : PySem.Str) :: ("opposite" : PySem.Str) :: ("products" : PySem.Str) :: ("Powers" : PySem.Str) :: ("_law_pen" : PySem.Str) :: ("_law_draw" : PySem.Str) :: ("_law_pick" : PySem.Str) :: ("_law_power" : PySem.Str) :: ("_law_poly" : PySem.Str) :: ("_law_made" : PySem.Str) :: ("_law_shuffled" : PySem.Str) :: ("_law_wide" : PySem.Str) :: [])) (d := HandSHeadRun.topDef (OpenLaw.row PySem.Challenge.rw_restcounts_k13_whole_parts_of_products).prog 26) (kwd := []) K13.ob_eq
    (by kernel_rfl) (fun s => by kernel_rfl) K13.run_ (by kernel_rfl) (by kernel_rfl) (by kernel_rfl) (by rfl) (by first | assumption | decide +kernel) (by decide +kernel) ⟨rfl, rfl, rfl, rfl, rfl, by decide +kernel⟩ ?hw ?hc
  case hw => w_witness2
  case hc =>
    refine DL.walk_ofX (l := PySem.Challenge.rw_restcounts_k13_whole_parts_of_products) (n := 63) (k := 7) (x := "_law_script") (CX := fun w => L2.CX PySem.Challenge.pw_restcounts_k13_whole_parts_of_products w) rfl (by decide) (by kernel_rfl) ⟨rfl, by decide, by decide⟩ ?F (fun _ _ _ _ _ z => DL.cx_false z)
    intro w mg fa h Y G hmg0
    obtain ⟨K, KX, c⟩ := Y
    have hmg : mg ("law" : PySem.Str) = some (.ref fa) := by
      have e : (HandSHeadRun.topDef (OpenLaw.row PySem.Challenge.rw_restcounts_k13_whole_parts_of_products).prog 26).name = ("law" : PySem.Str) := by kernel_rfl
      rw [← e]
      exact hmg0
    exact ⟨K, KX, K13.at_ KX G hmg c⟩
#print axioms PySem.Challenge.cw_restcounts_k13_whole_parts_of_products_holds
