import PyProof.Rows.All
import PySem.Challenge.RW_firstdecides_k72_whole_papers_bent
import HandS.ForMost
import KE.KStateDown
import HandS.Head0
import HandS.Head1
import HandS.Head2
import HandS.HeadEnd
import HandS.HeadHook1
import HandS.HeadHook2
import HandS.HeadHook3
import Wide.All
import OpenK.AllK
import Wide.FinOn
import KE.KOpsOwn
import HandS.More
import HandS.Star
import HandS.ClsMeth
import HandS.CallLocal
import HandS.Property
import HandS.IsInst
import HandS.TupAny
import HandS.Style
import HandS.ListItems
import HandS.Conv
import HandS.SetFor
import HandS.Strs
import HandS.Defaults
import HandS.Walk
import KE.GoesMore
import KE.GoesEnum
import HandS.SetKeys
import HandS.Zip
set_option Elab.async false
set_option linter.all false
set_option maxRecDepth 100000
section
set_option maxHeartbeats 2000000
/-! the program's statements, the kinds, what the head looks at -/
namespace FDT
open PySem PySem.Spec PyProof.Rows L2
def names0 : List PySem.Str := ["_wall", "ChoiceError", "Missing", "InvalidNumber", "InvalidSide", "InvalidReasons", "InvalidRecord", "InvalidOrder", "InvalidLine", "InvalidText", "InvalidWeights", "DuplicateName", "TooMany", "OtherReasons", "Stuck", "LastReason", "UnknownName", "UnknownMark", "UnknownReason", "full_mask"]
def names1 : List PySem.Str := ["mask_of", "mask_of_rowmasks", "names_of", "bits_of", "side_masks", "row_masks", "blocked_mask", "coming_mask", "greatest_within", "coming_table", "good_table", "LETTERS", "NAME_LENGTH", "is_spelled", "is_name", "is_number", "is_names", "is_group", "MOST_RANKED", "Order"]
def names2 : List PySem.Str := ["layered_mask", "stands", "greatest_stuck", "good_groups", "unborne", "Row", "MOST_REASONS_sheets", "MOST_LINES", "check_reasons", "is_line", "check_lines", "Sheet", "need_standing", "without_reason", "ends", "lines_of", "MOST_REASONS_books", "is_record", "stranger", "Book"]
def names3 : List PySem.Str := ["book_with", "head_flaw", "record_of", "record_flaw", "is_whole", "is_group_of", "checked_weights", "mask_of_pricing", "listed_groups", "empty_prices", "add_row", "price_table", "first_too_high", "slip_cost", "lot_records", "against_any", "first_idle", "first_for", "first_unborne", "stuck_flaw"]
def names4 : List PySem.Str := ["grounds_flaw", "flaw_fits", "flaw_stuck", "flaw_follows", "flaw_open", "flaw_some", "flaw_surely", "flaw_never", "flaw_slips", "flaw_changes", "in_family", "is_part", "flaw_clerks", "FLAWS", "paper_flaw", "is_breaks", "is_order_of", "is_row_of", "is_lot_of", "are_lots"]
def names5 : List PySem.Str := ["are_orders", "is_offer_of", "are_rivals", "is_weighting", "are_numbered_groups", "form_fits", "form_stuck", "form_follows", "form_open", "form_some", "form_surely", "form_never", "form_slips", "form_changes", "form_clerks", "FORMS", "LENGTHS", "is_paper", "flaw", "_law_draws"]
def names6 : List PySem.Str := ["_law_pull", "_law_any", "_law_mixed", "_law_like", "_law_names", "_law_is_among", "_law_is_lot", "_law_odd", "_law_bears", "_law_perms", "_law_row", "_law_rows", "_law_records", "_law_real_row", "_law_book", "_law_order", "_law_stuck_lot", "_law_core", "_law_sheet", "_law_first_idle"]
def names7 : List PySem.Str := ["_law_signs", "_law_stuck_flaw", "_law_follow_flaw", "_law_pairs", "_law_fitting", "_law_real", "_law_is_order_part", "_law_is_row_part", "_law_odd_part", "_law_order_part", "_law_lot_part", "_law_unborne", "_law_bent_paper", "_law_with_idle", "_law_row_part", "_law_joined", "_law_some_paper", "_law_due"]
def names : List PySem.Str := names0 ++ names1 ++ names2 ++ names3 ++ names4 ++ names5 ++ names6 ++ names7
/-- the keys in order, but for the start's names -/
def subK : List PySem.Str → List PySem.Str → Bool
  | ks, [] => ks.isEmpty
  | [], _ :: _ => true
  | k :: ks, b :: bs => match k == b with
    | true => subK ks bs
    | false => subK (k :: ks) bs
theorem subK_mem : ∀ (bs ks : List PySem.Str), subK ks bs = true → ∀ k ∈ ks, k ∈ bs
  | [], ks, h, k, hk => by
    have h2 : ks.isEmpty = true := by
      cases ks <;> exact h
    rw [List.isEmpty_iff.mp h2] at hk
    cases hk
  | b :: bs, [], _, _, hk => by cases hk
  | b :: bs, k :: ks, h, x, hx => by
    have h2 : (match k == b with
      | true => subK ks bs
      | false => subK (k :: ks) bs) = true := h
    cases q : (k == b) with
    | true =>
      rw [q] at h2
      rcases List.mem_cons.mp hx with rfl | hx
      · rw [beq_iff_eq.mp q]
        exact List.mem_cons_self
      · exact List.mem_cons_of_mem _ (subK_mem bs ks h2 x hx)
    | false =>
      rw [q] at h2
      exact List.mem_cons_of_mem _ (subK_mem bs (k :: ks) h2 x hx)
def namesA : List PySem.Str := names ++ (["law"] : List PySem.Str)
theorem dropW_mem {p : PySem.Str → Bool} : ∀ (l : List PySem.Str) (k : PySem.Str), k ∈ l → p k = true ∨ k ∈ l.dropWhile p
  | a :: l, k, h => by
    rw [List.dropWhile_cons]
    cases q : p a with
    | true =>
      rcases List.mem_cons.mp h with rfl | h
      · exact .inl q
      · exact dropW_mem l k h
    | false => exact .inr h
end FDT
namespace FD
open PySem PySem.Spec PyProof.Rows L2
def top (i : Nat) : Stmt := PySem.Challenge.pw_firstdecides_k72_whole_papers_bent.main.body.getD i (.Pass ⟨0, 0, 0, 0⟩)
inductive Tg where
  | non | bl | int | str | lst | tup | dic | row | ord | book
  deriving DecidableEq
def Tg.is (t u : Tg) : Bool := decide (t = u) || (decide (t = .bl) && decide (u = .int))
def words10 : List Str := ["fits", "stuck", "follows", "open", "some", "surely", "never", "slips", "changes", "clerks"]
/-! ### the part of the heap that is looked at -/
def gl0 : List (Str × Stmt) := [("is_spelled", top 37), ("is_name", top 38), ("is_names", top 40), ("unborne", top 52), ("is_record", top 71), ("stranger", top 72), ("lot_records", top 92), ("against_any", top 93), ("first_idle", top 94), ("first_for", top 95), ("first_unborne", top 96), ("stuck_flaw", top 97), ("grounds_flaw", top 98), ("flaw_fits", top 99), ("flaw_stuck", top 100), ("flaw_follows", top 101), ("flaw_open", top 102), ("paper_flaw", top 112), ("is_order_of", top 116), ("is_row_of", top 117)]
def gl1 : List (Str × Stmt) := [("is_lot_of", top 118), ("are_orders", top 120), ("form_fits", top 125), ("form_stuck", top 126), ("form_follows", top 127), ("form_open", top 128), ("form_clerks", top 134), ("is_paper", top 137), ("flaw", top 139), ("_law_draws", top 141), ("_law_pull", top 142), ("_law_any", top 143), ("_law_mixed", top 144), ("_law_like", top 145), ("_law_names", top 146), ("_law_is_among", top 147), ("_law_is_lot", top 148), ("_law_odd", top 149), ("_law_bears", top 150), ("_law_perms", top 151)]
def gl2 : List (Str × Stmt) := [("_law_row", top 152), ("_law_rows", top 153), ("_law_records", top 154), ("_law_real_row", top 155), ("_law_book", top 156), ("_law_order", top 157), ("_law_stuck_lot", top 158), ("_law_core", top 159), ("_law_first_idle", top 161), ("_law_signs", top 162), ("_law_stuck_flaw", top 163), ("_law_follow_flaw", top 164), ("_law_pairs", top 165), ("_law_fitting", top 166), ("_law_real", top 167), ("_law_is_order_part", top 168), ("_law_is_row_part", top 169), ("_law_odd_part", top 170), ("_law_order_part", top 171), ("_law_lot_part", top 172)]
def gl3 : List (Str × Stmt) := [("_law_unborne", top 173), ("_law_bent_paper", top 174), ("_law_with_idle", top 175), ("_law_row_part", top 176), ("_law_joined", top 177), ("_law_some_paper", top 178), ("_law_due", top 179), ("law", top 180)]
def gls : List (Str × Stmt) := gl0 ++ (gl1 ++ (gl2 ++ (gl3)))
def glN : List Str := gls.map Prod.fst
def gnX : List Str := ["Order", "Row", "Book", "flaw_some", "flaw_surely", "flaw_never", "flaw_slips", "flaw_changes", "flaw_clerks", "FLAWS", "form_some", "form_surely", "form_never", "form_slips", "form_changes", "FORMS", "LENGTHS"]
def gnames : List Str := glN ++ gnX
/-! the names' values, by one pass -/
def ents (g : Addr → Option Obj) : List DictEntry := match g mainGlobals with
  | some ⟨_, _, .dict es _, _⟩ => es.toList
  | _ => []
def pick : List Str → List DictEntry → List Value
  | _, [] => []
  | [], _ :: _ => []
  | x :: xs, e :: es => match e.key.isStr x with
    | true => e.val :: pick xs es
    | false => pick (x :: xs) es
def ksOf (es : List DictEntry) : List Str := es.map fun e => match e.key with
  | .str n _ => n
  | _ => ""
def keysGood (g : Addr → Option Obj) : Bool := (!(ents g).isEmpty) && (((ents g).all fun e => !e.refKey) && FDT.subK ((ksOf (ents g)).dropWhile fun k => startupNames.contains k) FDT.namesA)
def adr : Value → Addr
  | .ref a => a
  | _ => 0
def isRef : Value → Bool
  | .ref _ => true
  | _ => false
def nxF (g : Addr → Option Obj) (a : Addr) : List Addr := match g a with
  | some ⟨_, _, .func fd, _⟩ => He.refV fd.code ++ He.refV fd.defaults
  | some ⟨_, _, .cls cd, _⟩ => [cd.ns]
  | _ => []
def nxD (g : Addr → Option Obj) (a : Addr) : List Addr := match g a with
  | some ⟨_, _, .dict es _, _⟩ => es.toList.flatMap fun e => He.refV e.val
  | _ => []
def nxR (g : Addr → Option Obj) (a : Addr) : List Addr := match g a with
  | some ⟨_, _, .func fd, _⟩ => He.refV fd.code ++ He.refV fd.defaults
  | some ⟨_, _, .fields vs, _⟩ => vs.toList.flatMap He.refV
  | _ => []
def K0 (g : Addr → Option Obj) : PySem.W.Frag := He.frG g [mainGlobals]
def cnames : List Str := ["Row", "Order", "Book", "FORMS", "LENGTHS", "FLAWS"]
def adrs1 (g : Addr → Option Obj) : List Addr := cnames.map fun x => He.ga (K0 g) x
def adrs3 (g : Addr → Option Obj) : List Addr := ((["Row", "Order", "Book"] : List Str).flatMap fun x => nxF g (He.ga (K0 g) x)).flatMap (nxD g)
def adrs4 (g : Addr → Option Obj) : List Addr := (adrs3 g).flatMap (nxR g)
def adrsF (g : Addr → Option Obj) : List Addr := (pick glN (ents g)).map adr
def adrs (g : Addr → Option Obj) : List Addr := mainGlobals :: cStatics :: (adrs1 g ++ ((adrs1 g).flatMap (nxF g) ++ (adrs3 g ++ (adrs4 g ++ ((adrs4 g).flatMap (nxF g) ++ (adrsF g ++ (adrsF g).flatMap (nxF g)))))))
def frH (g : Addr → Option Obj) : PySem.W.Frag := He.frG g (adrs g)
/-! ### defs -/
/-- the getter of Row.idle, the def of Order.read -/
def prA (K : PySem.W.Frag) : Addr := match PySem.W.recIn K (He.ma K (He.ga K "Row") "idle") "property" with
  | some (.ref g :: _) => g
  | _ => 0
def stA (K : PySem.W.Frag) : Addr := match PySem.W.recIn K (He.ma K (He.ga K "Order") "read") "staticmethod" with
  | some (.ref g :: _) => g
  | _ => 0
structure Fx where
  at_ : PySem.W.Frag → Addr
  name : Str
  qual : Str
  st : Stmt
  dfl : Nat
def Fx.w (K : PySem.W.Frag) (d : Fx) : He.FnW := match K.lookup (d.at_ K) with
  | some ⟨_, _, .func fd, _⟩ => some (fd.name, fd.qualname, fd.params, fd.body, fd.scope, fd.globals, fd.closure, fd.builtins)
  | _ => none
def Fx.val (d : Fx) : He.FnW := some (d.name, d.qual, defArgs d.st, .stmts (defBody d.st), defScope d.st, mainGlobals, [], builtinsNs)
def dflN (K : PySem.W.Frag) (v : Value) : Nat → Bool
  | 0 => (match v with
    | .none => true
    | _ => false)
  | n + 1 => (match v with
    | .ref T => (match K.lookup T with
      | some ⟨_, _, .seq its _, _⟩ => decide (its.toList.length = n + 1)
      | _ => false)
    | _ => false)
def Fx.ok (K : PySem.W.Frag) (d : Fx) : Bool := PySem.W.keepIn K (.ref (d.at_ K)) && (match K.lookup (d.at_ K) with
  | some ⟨_, _, .func fd, _⟩ => PySem.W.codeIn K fd.code d.qual && dflN K fd.defaults d.dfl
  | _ => false)
abbrev gFx (p : Str × Stmt) : Fx := ⟨fun K => He.ga K p.1, p.1, p.1, p.2, 0⟩
def fxM : List Fx := [⟨fun K => He.ma K (He.ga K "Order") "decides", "decides", "Order.decides", (inClass (top 44) 4), 0⟩,
  ⟨fun K => He.ma K (He.ga K "Order") "bears", "bears", "Order.bears", (inClass (top 44) 5), 0⟩,
  ⟨fun K => He.ma K (He.ga K "Book") "records", "records", "Book.records", (inClass (top 73) 2), 0⟩,
  ⟨fun K => He.ma K (He.ga K "Book") "marks", "marks", "Book.marks", (inClass (top 73) 3), 0⟩,
  ⟨fun K => He.ma K (He.ga K "Book") "row", "row", "Book.row", (inClass (top 73) 5), 0⟩,
  ⟨fun K => He.ma K (He.ga K "Book") "is_lot", "is_lot", "Book.is_lot", (inClass (top 73) 9), 0⟩,
  ⟨fun K => He.ma K (He.ga K "Row") "__init__", "__init__", "Row.__init__", (inClass (top 54) 0), 2⟩,
  ⟨fun K => He.ma K (He.ga K "Order") "__init__", "__init__", "Order.__init__", (inClass (top 44) 0), 0⟩,
  ⟨fun K => He.ma K (He.ga K "Book") "__init__", "__init__", "Book.__init__", (inClass (top 73) 1), 0⟩,
  ⟨fun K => He.ma K (He.ga K "Book") "__contains__", "__contains__", "Book.__contains__", (inClass (top 73) 14), 0⟩,
  ⟨fun K => He.ma K (He.ga K "Book") "__add__", "__add__", "Book.__add__", (inClass (top 73) 13), 0⟩,
  ⟨prA, "idle", "Row.idle", (inClass (top 54) 1), 0⟩,
  ⟨stA, "read", "Order.read", (inClass (top 44) 8), 0⟩]
def fxs : List Fx := gls.map gFx ++ fxM
/-! ### the checks -/
def frees : List Str := ["len", "int", "list", "tuple", "set", "bool", "str", "dict", "all", "any", "sorted", "isinstance", "range", "zip", "enumerate"]
def meths : List (Str × Str) := [("Order", "decides"), ("Order", "bears"), ("Book", "records"), ("Book", "marks"), ("Book", "row"), ("Book", "is_lot")]
def clss : List Str := ["Row", "Order", "Book"]
def flds : List (Str × Str) := [("Row", "pro"), ("Row", "con"), ("Row", "named"), ("Order", "ranked"), ("Order", "spots"), ("Order", "reasons"), ("Book", "reasons"), ("Book", "by_mark")]
def tgs : List Tg := [.non, .bl, .int, .str, .lst, .tup, .dic, .row, .ord, .book]
def tv (K : PySem.W.Frag) : Tg → Value
  | .non => .type "NoneType" | .bl => .type "bool" | .int => .type "int" | .str => .type "str" | .lst => .type "list" | .tup => .type "tuple" | .dic => .type "dict" | .row => .ref (He.ga K "Row") | .ord => .ref (He.ga K "Order") | .book => .ref (He.ga K "Book")
def mT : Value := .type "type"
def okCl (K : PySem.W.Frag) (C : Str) : Bool := (He.Fa.cls C).ok K && ((He.Fa.mkr C).ok K && (He.eqO (PySem.W.findIn K (.ref (He.ga K C)) "__class__") (some (some (.builtin "object.__class__"))) && decide (PySem.W.mroIn K (He.ga K C) (.type "object") = some true)))
def okKit (K : PySem.W.Frag) : Bool := tgs.all fun t => tgs.all fun u => decide (u = .non) || decide (PySem.W.kitOne K (tv K t) (tv K u) = some (t.is u))
def okRead (K : PySem.W.Frag) (C : Str) : Bool := PySem.W.readsIn K (He.ga K C) mT && He.eqO (PySem.W.specialIn K (.ref (He.ga K C)) "__getattribute__") (some (some (.builtin "type.__getattribute__")))
def okMost (K : PySem.W.Frag) : Bool := match PySem.W.findCls K (.ref (He.ga K "Book")) mT "MOST" with
  | some (.val (.int j _)) => decide (j = 40)
  | _ => false
def okStat (K : PySem.W.Frag) : Bool := (match PySem.W.findCls K (.ref (He.ga K "Order")) mT "read" with
  | some (.get (.builtin s) (.ref q) .none (.ref c)) => decide (s = "staticmethod.__get__") && (decide (q = He.ma K (He.ga K "Order") "read") && decide (c = He.ga K "Order"))
  | _ => false) && (match PySem.W.recIn K (He.ma K (He.ga K "Order") "read") "staticmethod" with
  | some (.ref _ :: _) => true
  | _ => false)
def okProp (K : PySem.W.Frag) : Bool := He.eqO (PySem.W.findIn K (.ref (He.ga K "Row")) "idle") (some (some (.ref (He.ma K (He.ga K "Row") "idle")))) && (He.eqO (PySem.W.specialIn K (.ref (He.ma K (He.ga K "Row") "idle")) "__get__") (some (some (.builtin "property.__get__"))) && (decide (PySem.W.takesIn K (.ref (He.ma K (He.ga K "Row") "idle")) = some true) && (match PySem.W.recIn K (He.ma K (He.ga K "Row") "idle") "property" with
  | some (.ref _ :: _) => true
  | _ => false)))
def bA (K : PySem.W.Frag) (m : Str) : Addr := He.ma K (He.ga K "Book") m
def okOwn (K : PySem.W.Frag) (m : Str) : Bool := He.eqO (PySem.W.findIn K (.ref (He.ga K "Book")) m) (some (some (.ref (bA K m)))) && PySem.W.isFn K (.ref (bA K m))
def okAdd (K : PySem.W.Frag) : Bool := PySem.W.selfFirst K (He.ga K "Book") && (He.eqO (PySem.W.findIn K (.ref (He.ga K "Book")) "__radd__") (some none) && ((PySem.W.findIn K (.type "tuple") "__add__").isSome && ((PySem.W.findIn K (.type "tuple") "__radd__").isSome && decide (PySem.W.subIn K (.type "tuple") (.ref (He.ga K "Book")) = some false))))
def vF : List (Str × He.Dv) := [("fits", .glo "form_fits"), ("stuck", .glo "form_stuck"), ("follows", .glo "form_follows"), ("open", .glo "form_open"), ("some", .glo "form_some"), ("surely", .glo "form_surely"), ("never", .glo "form_never"), ("slips", .glo "form_slips"), ("changes", .glo "form_changes"), ("clerks", .glo "form_clerks")]
def vX : List (Str × He.Dv) := [("fits", .glo "flaw_fits"), ("stuck", .glo "flaw_stuck"), ("follows", .glo "flaw_follows"), ("open", .glo "flaw_open"), ("some", .glo "flaw_some"), ("surely", .glo "flaw_surely"), ("never", .glo "flaw_never"), ("slips", .glo "flaw_slips"), ("changes", .glo "flaw_changes"), ("clerks", .glo "flaw_clerks")]
def vL : List (Str × He.Dv) := [("fits", .int 2), ("stuck", .int 2), ("follows", .int 3), ("open", .int 3), ("some", .int 5), ("surely", .int 4), ("never", .int 5), ("slips", .int 4), ("changes", .int 4), ("clerks", .int 3)]
def okTab (K : PySem.W.Frag) : Bool := He.valsB K (He.ga K "FORMS") vF && (He.valsB K (He.ga K "LENGTHS") vL && He.valsB K (He.ga K "FLAWS") vX)
def okCon (K : PySem.W.Frag) : Bool := (He.Fa.str "LETTERS" "abcdefghijklmnopqrstuvwxyz").ok K && ((He.Fa.int "NAME_LENGTH" 6).ok K && ((He.Fa.int "MOST_RANKED" 7).ok K && (He.Fa.int "MOST_REASONS_books" 7).ok K))
def okNe (K : PySem.W.Frag) : Bool := !(He.ga K "Row" == He.ga K "Order") && (!(He.ga K "Row" == He.ga K "Book") && !(He.ga K "Order" == He.ga K "Book"))
def okGs (K : PySem.W.Frag) : Bool := He.eqO (PySem.W.specialIn K (.builtin "object.__class__") "__get__") (some (some (.builtin "getset_descriptor.__get__"))) && decide (PySem.W.takesIn K (.builtin "object.__class__") = some true)
def chks : List (PySem.W.Frag → Bool) := [fun K => frees.all fun x => (He.Fa.free x).ok K, fun K => gnames.all fun x => (He.Fa.glo x).ok K, fun K => meths.all fun m => (He.Fa.meth m.1 m.2).ok K, fun K => clss.all fun C => okCl K C, fun K => flds.all fun p => (He.Fa.noat p.1 p.2).ok K, okKit, fun K => okRead K "Order", fun K => okRead K "Book", okMost, okStat, okProp, fun K => okOwn K "__contains__", fun K => okOwn K "__add__", okAdd, okTab, okCon, okNe, okGs]
def chk (K : PySem.W.Frag) : Bool := chks.all fun f => f K
abbrev AlH : Type := Bool × (List He.FnW × List (Option (List (Option (Str × Int)))))
def tabs (K : PySem.W.Frag) : List (Option (List (Option (Str × Int)))) := [He.dicW K (He.ga K "FORMS"), He.dicW K (He.ga K "LENGTHS"), He.dicW K (He.ga K "FLAWS")]
def tabV (w : World) : List (Option (List (Option (Str × Int)))) := [some (He.keysIn w.params words10), some (He.keysIn w.params words10), some (He.keysIn w.params words10)]
def obsK (K : PySem.W.Frag) : AlH := (chk K && fxs.all fun d => d.ok K, fxs.map fun d => d.w K, tabs K)
def valK (w : World) : AlH := (true, fxs.map Fx.val, tabV w)
def Says (w : World) (K : PySem.W.Frag) : Prop := obsK K = valK w
/-! ### what the head looks at, cheaply -/
def subG (g : Addr → Option Obj) (f : Addr) : PySem.W.Frag := He.frG g (f :: nxF g f)
def wG (g : Addr → Option Obj) (f : Addr) : He.FnW := match (subG g f).lookup f with
  | some ⟨_, _, .func fd, _⟩ => some (fd.name, fd.qualname, fd.params, fd.body, fd.scope, fd.globals, fd.closure, fd.builtins)
  | _ => none
def okG (g : Addr → Option Obj) (q : Str) (f : Addr) : Bool := match (subG g f).lookup f with
  | some ⟨_, _, .func fd, _⟩ => PySem.W.codeIn (subG g f) fd.code q && dflN (subG g f) fd.defaults 0
  | _ => false
def chkA (K : PySem.W.Frag) : Bool := (chks.drop 2).all fun f => f K
def obA (g : Addr → Option Obj) : Bool := chkA (frH g)
def pkB (g : Addr → Option Obj) (xs : List Str) : Bool := (pick xs (ents g)).all isRef && decide ((pick xs (ents g)).length = xs.length)
def obR (g : Addr → Option Obj) : Bool := pkB g glN && (pkB g gnX && (((gls.zip (pick glN (ents g))).all fun q => okG g q.1.1 (adr q.2)) && fxM.all fun d => d.ok (frH g)))
def obB (g : Addr → Option Obj) : Bool := keysGood g && obR g
def obC (g : Addr → Option Obj) : List He.FnW × List He.FnW := ((pick glN (ents g)).map fun v => wG g (adr v), fxM.map fun d => d.w (frH g))
def vaC : List He.FnW × List He.FnW := (gls.map fun p => (gFx p).val, fxM.map Fx.val)
end FD
end
section
set_option maxHeartbeats 0
namespace FDT
open FD
noncomputable section
open PySem PySem.Spec PyProof.Rows L2 PySem.W PySem.Calls
abbrev R : PySem.W.OpenRow := PySem.W.OpenLaw.row PySem.Challenge.rw_firstdecides_k72_whole_papers_bent
abbrev Qv : Program := PySem.W.view R.prog [180]
def frT (s : PySem.W.SharedT) : PySem.W.Frag := frH (HandSHeadRun.getT s)
def RunP {α : Type} (f : World → PySem.W.SharedT → α) (v : World → α) (w : World) : Prop :=
  ∀ os : OsState, (HandSHeadRun.endF (HandSHeadRun.stepQ (HandSHeadRun.denQ HandSHeadRun.tabQ) R.prog w) 13000 R.prog w os).map (f w) = some (v w)
/-! the library's looks, off the tree: no list of all objects is made -/
def dE (g : Addr → Option Obj) (a : Addr) : Option (List DictEntry) := match g a with
  | some ⟨_, _, .dict es _, _⟩ => some es.toList
  | _ => none
def kE (e : DictEntry) : Option PySem.Str := match e.key with
  | .str n _ => some n
  | _ => none
def isD (g : Addr → Option Obj) (a : Addr) : Bool := match dE g a with
  | some es => es.all fun e => (kE e).isSome
  | none => false
def kysD (g : Addr → Option Obj) (a : Addr) : List PySem.Str := match dE g a with
  | some es => es.filterMap kE
  | none => []
def prsD (g : Addr → Option Obj) (a : Addr) : List (PySem.Str × Value) := match dE g a with
  | some es => es.filterMap fun e => (kE e).map fun n => (n, e.val)
  | none => []
def mapD (g : Addr → Option Obj) (a : Addr) (x : PySem.Str) : Option Value := match dE g a with
  | some es => (es.find? fun e => e.key.isStr x).map fun e => e.val
  | none => none
def fdD (g : Addr → Option Obj) (x : PySem.Str) : Option FuncData := match mapD g mainGlobals x with
  | some (.ref a) => (match g a with
    | some ⟨_, _, .func fd, _⟩ => some fd
    | _ => none)
  | _ => none
def cdD (g : Addr → Option Obj) (cd : Value) (q : PySem.Str) : Bool := match cd with
  | .ref c => (match g c with
    | some ⟨_, _, .fields vs, _⟩ => (match (vs[1]? : Option Value) with
      | some (.str n _) => n == q
      | _ => false)
    | _ => false)
  | _ => false
def shD (g : Addr → Option Obj) (x : PySem.Str) : Option FnShape := (fdD g x).map fun fd =>
  ⟨fd.name, fd.qualname, fd.params, fd.body, fd.scope, fd.globals, fd.closure, fd.defaults, fd.kwdefaults, fd.annotations, fd.closureTuple, fd.builtins, cdD g fd.code fd.qualname⟩
def noF (o : Option Obj) : Bool := match o with
  | some ⟨.none, none, .fields ps, sl⟩ => ps.size == 0 && sl.size == 0
  | _ => false
def t0D (g : Addr → Option Obj) (c : Addr) : Bool := match g c with
  | some ⟨.type n, _, .fields vs, _⟩ => n == "code" && ((match (vs[11]? : Option Value) with
      | some (.ref p) => c != p && noF (g p)
      | _ => false) && ((match (vs[18]? : Option Value) with
      | some (.str _ _) => true
      | _ => false) && ((match (vs[7]? : Option Value) with
      | some (.int _ _) => true
      | _ => false) && ((match (vs[9]? : Option Value) with
      | some (.bool _) => true
      | _ => false) && (match (vs[10]? : Option Value) with
      | some (.int _ _) => true
      | _ => false)))))
  | _ => false
def tbD (g : Addr → Option Obj) (x : PySem.Str) : Bool := match fdD g x with
  | some fd => (match fd.code with
    | .ref c => t0D g c
    | _ => false)
  | none => false
def bmD (g : Addr → Option Obj) : Bool := match mapD g mainGlobals "__builtins__" with
  | some (.ref b) => b != builtinsNs && (match g b with
    | some ⟨.type n, some d, .plain, _⟩ => n == "module" && d == builtinsNs
    | _ => false)
  | _ => false
def nbD (g : Addr → Option Obj) : Bool := subK ((kysD g mainGlobals).dropWhile fun k => startupNames.contains k) namesA
def noD (g : Addr → Option Obj) (a : Addr) (x : PySem.Str) : Bool := (mapD g a x).isNone
def stD (h : Heap) (g : Addr → Option Obj) : Bool := h.isNs cStatics && (h.nsKeys cStatics ++ kysD g cStatics).all fun k =>
  k.opensWith "type.__subclasses__." || (k.opensWith "type.first-doc." || ((firstUseKey k && (h.nsMap cStatics k).isNone) || decide (mapD g cStatics k = h.nsMap cStatics k)))
def acD (g : Addr → Option Obj) : Bool := (kysD g cStatics).all fun k => firstUseKey k || runKey k
def ldD (h : Heap) (g : Addr → Option Obj) : Bool := h.isNs mainGlobals && laidNames.all fun x => decide (mapD g mainGlobals x = h.nsMap mainGlobals x)
/-- all yes-or-no looks -/
def bsD (h : Heap) (g : Addr → Option Obj) (gs : Array GenState) : Bool := gs.toList.isEmpty && (isD g mainGlobals && (isD g builtinsNs && (isD g cStatics && (isD g sysModules && (
  noD g cStatics "sys.recursionlimit" && (noD g cStatics "sys.int_max_str_digits" && (noD g cStatics "sys.audit-hooks" && (noD g cStatics "sys.dict" && (noD g sysModules "_pylong" && (
  bmD g && (tbD g "law" && (acD g && (stD h g && (ldD h g && nbD g))))))))))))))
def abD (h : Heap) (g : Addr → Option Obj) (gs : Array GenState) : Option FnShape × ((Option PySem.Str × List (PySem.Str × Value)) × Bool) := (shD g "law", (((prsD g builtinsNs).head?.map (·.1), (prsD g builtinsNs).tail), bsD h g gs))
def abV : Option FnShape × ((Option PySem.Str × List (PySem.Str × Value)) × Bool) := ((recsOf Qv).head?.map DefRec.shape, (bltViewBooted, true))
abbrev RA : World → Prop := RunP (fun w s => (abD (boot_heap w.params) (HandSHeadRun.getT s) s.gens, (obC (HandSHeadRun.getT s), tabs (frT s)))) fun w => (abV, (vaC, tabV w))
abbrev RB : World → Prop := RunP (fun _ s => obR (HandSHeadRun.getT s)) fun _ => true
abbrev RC : World → Prop := RunP (fun _ s => obA (HandSHeadRun.getT s)) fun _ => true
end
end FDT
end
section
set_option maxHeartbeats 0
/-! the top's run: three looks at its end, in two worlds -/
namespace FDT
open FD
open PySem PySem.Spec PyProof.Rows L2 PySem.W PySem.Calls
theorem rA0 (w : World) : RA (w.withFollow "special-get-raises" false) := by
  intro os
  kernel_rfl
theorem rB0 (w : World) : RB (w.withFollow "special-get-raises" false) := by
  intro os
  kernel_rfl
theorem rC0 (w : World) : RC (w.withFollow "special-get-raises" false) := by
  intro os
  kernel_rfl
theorem rA1 (w : World) : RA (w.withFollow "special-get-raises" true) := by
  intro os
  kernel_rfl
theorem rB1 (w : World) : RB (w.withFollow "special-get-raises" true) := by
  intro os
  kernel_rfl
theorem rC1 (w : World) : RC (w.withFollow "special-get-raises" true) := by
  intro os
  kernel_rfl
end FDT
end
section
set_option maxHeartbeats 2000000
/-! what the looks give (behind the runs: the kernel's memory) -/
namespace FD
open PySem PySem.Spec PyProof.Rows L2
theorem frG_look {g : Addr → Option Obj} {a : Addr} : ∀ {as : List Addr}, a ∈ as → (He.frG g as).lookup a = g a
  | b :: r, h => by
    unfold He.frG
    rw [List.filterMap_cons]
    by_cases e : a = b
    · subst e
      cases q : g a with
      | none =>
        show (He.frG g r).lookup a = none
        cases q2 : (He.frG g r).lookup a with
        | none => rfl
        | some o => rw [He.frG_at r q2] at q; cases q
      | some o =>
        show List.lookup a ((a, o) :: _) = some o
        simp [List.lookup]
    · have h2 : a ∈ r := (List.mem_cons.mp h).resolve_left e
      have ih := frG_look (g := g) h2
      unfold He.frG at ih
      cases q : g b with
      | none => exact ih
      | some o =>
        show List.lookup a ((b, o) :: _) = _
        have e2 : (a == b) = false := by simpa using e
        simp only [List.lookup, e2]
        exact ih
theorem frG_mem {g : Addr → Option Obj} {a : Addr} {o : Obj} : ∀ {as : List Addr}, (He.frG g as).lookup a = some o → a ∈ as
  | [], h => by cases h
  | b :: r, h => by
    by_cases e : a = b
    · exact e ▸ List.mem_cons_self
    · refine List.mem_cons_of_mem _ (frG_mem (g := g) (o := o) ?_)
      unfold He.frG at h
      rw [List.filterMap_cons] at h
      cases q : g b with
      | none => rw [q] at h; exact h
      | some o2 =>
        rw [q] at h
        have e2 : (a == b) = false := by simpa using e
        have h2 : List.lookup a ((b, o2) :: He.frG g r) = some o := h
        simp only [List.lookup, e2] at h2
        exact h2
section
variable {g : Addr → Option Obj}
theorem ns_eq (x : Str) : PySem.W.nsIn (frH g) mainGlobals x = PySem.W.nsIn (K0 g) mainGlobals x := by
  unfold PySem.W.nsIn
  rw [show (frH g).lookup mainGlobals = g mainGlobals from frG_look List.mem_cons_self, show (K0 g).lookup mainGlobals = g mainGlobals from frG_look List.mem_cons_self]
theorem ga_eq (x : Str) : He.ga (frH g) x = He.ga (K0 g) x := by
  unfold He.ga
  rw [ns_eq]
theorem in_F {a : Addr} (h : a ∈ adrsF g ++ (adrsF g).flatMap (nxF g)) : a ∈ adrs g := by
  unfold adrs
  exact List.mem_cons_of_mem _ (List.mem_cons_of_mem _ (List.mem_append_right _ (List.mem_append_right _ (List.mem_append_right _ (List.mem_append_right _ (List.mem_append_right _ h))))))
theorem sub_K {f c : Addr} {o : Obj} (hf : f ∈ adrsF g) (h : (subG g f).lookup c = some o) : (frH g).lookup c = some o := by
  have hm : c ∈ adrs g := by
    rcases List.mem_cons.mp (frG_mem h) with rfl | hc
    · exact in_F (List.mem_append_left _ hf)
    · exact in_F (List.mem_append_right _ (List.mem_flatMap.mpr ⟨f, hf, hc⟩))
  rw [show (frH g).lookup c = g c from frG_look hm]
  exact He.frG_at _ h
theorem subK_sub : ∀ (bs ks : List Str), FDT.subK ks bs = true → ks.Sublist bs
  | [], ks, h => by
    have h2 : ks.isEmpty = true := by
      cases ks <;> exact h
    rw [List.isEmpty_iff.mp h2]
    exact List.Sublist.slnil
  | b :: bs, [], _ => List.nil_sublist _
  | b :: bs, k :: ks, h => by
    have h2 : (match k == b with
      | true => FDT.subK ks bs
      | false => FDT.subK (k :: ks) bs) = true := h
    cases q : (k == b) with
    | true =>
      rw [q] at h2
      rw [beq_iff_eq.mp q]
      exact (subK_sub bs ks h2).cons_cons _
    | false =>
      rw [q] at h2
      exact (subK_sub bs (k :: ks) h2).cons _
theorem tw_imp {p : Str → Bool} {x : Str} : ∀ {l : List Str}, x ∈ l.takeWhile p → p x = true
  | a :: l, h => by
    rw [List.takeWhile_cons] at h
    cases q : p a with
    | true =>
      rw [q] at h
      rcases List.mem_cons.mp h with rfl | h
      · exact q
      · exact tw_imp h
    | false =>
      rw [q] at h
      cases h
theorem isStr_k {e : DictEntry} {x : Str} (h : e.key.isStr x = true) : (match e.key with
    | .str n _ => n
    | _ => ("" : Str)) = x := by
  cases q : e.key with
  | str n u =>
    rw [q] at h
    exact beq_iff_eq.mp h
  | _ =>
    rw [q] at h
    cases h
theorem ks_mem {es : List DictEntry} {e : DictEntry} {x : Str} (he : e ∈ es) (h : e.key.isStr x = true) : x ∈ ksOf es := List.mem_map.mpr ⟨e, he, isStr_k h⟩
theorem find_u {x : Str} : ∀ {es : List DictEntry} {e : DictEntry}, (ksOf es).count x ≤ 1 → e ∈ es → e.key.isStr x = true → ∃ e', es.find? (·.key.isStr x) = some e' ∧ e'.val = e.val
  | h0 :: es, e, hc, he, hx => by
    rw [List.find?_cons]
    cases q : h0.key.isStr x with
    | true =>
      refine ⟨h0, rfl, ?_⟩
      rcases List.mem_cons.mp he with rfl | he
      · rfl
      · have h1 : 1 ≤ (ksOf es).count x := List.count_pos_iff.mpr (ks_mem he hx)
        have h2 : (ksOf (h0 :: es)).count x = (ksOf es).count x + 1 := by
          show ((match h0.key with
            | .str n _ => n
            | _ => ("" : Str)) :: ksOf es).count x = _
          rw [isStr_k q, List.count_cons_self]
        omega
    | false =>
      rcases List.mem_cons.mp he with rfl | he
      · rw [q] at hx
        cases hx
      · refine find_u (Nat.le_trans ?_ hc) he hx
        exact List.Sublist.count_le x (List.sublist_cons_self _ _)
theorem pick_at : ∀ {es : List DictEntry} {xs : List Str} {i : Nat} {v : Value}, (pick xs es)[i]? = some v → ∃ x e, xs[i]? = some x ∧ e ∈ es ∧ e.key.isStr x = true ∧ e.val = v
  | [], xs, i, v, h => by
    have : pick xs [] = [] := by cases xs <;> rfl
    rw [this] at h
    cases h
  | e :: es, [], i, v, h => by cases h
  | e :: es, x :: xs, i, v, h => by
    have h2 : (match e.key.isStr x with
      | true => e.val :: pick xs es
      | false => pick (x :: xs) es)[i]? = some v := h
    cases q : e.key.isStr x with
    | true =>
      rw [q] at h2
      cases i with
      | zero => exact ⟨x, e, rfl, List.mem_cons_self, q, Option.some.inj h2⟩
      | succ i =>
        obtain ⟨x', e', h3, h4, h5⟩ := pick_at (es := es) (xs := xs) (i := i) h2
        exact ⟨x', e', h3, List.mem_cons_of_mem _ h4, h5⟩
    | false =>
      rw [q] at h2
      obtain ⟨x', e', h3, h4, h5⟩ := pick_at (es := es) (xs := x :: xs) (i := i) h2
      exact ⟨x', e', h3, List.mem_cons_of_mem _ h4, h5⟩
theorem keys_dict (k : keysGood g = true) : ∃ c d es n s, g mainGlobals = some ⟨c, d, .dict es n, s⟩ ∧ ents g = es.toList := by
  have h1 := (He.ba k).1
  unfold ents at h1 ⊢
  cases q : g mainGlobals with
  | none =>
    rw [q] at h1
    cases h1
  | some o =>
    obtain ⟨c1, c2, dt, c4⟩ := o
    rw [q] at h1
    cases dt with
    | dict es n => exact ⟨_, _, es, n, _, rfl, rfl⟩
    | _ => cases h1
theorem ns_find (k : keysGood g = true) (x : Str) : PySem.W.nsIn (K0 g) mainGlobals x = (match (ents g).find? (·.key.isStr x) with
    | some e => some (some e.val)
    | none => some none) := by
  obtain ⟨c, d, es, n, s, e1, e2⟩ := keys_dict k
  unfold PySem.W.nsIn
  rw [show (K0 g).lookup mainGlobals = g mainGlobals from frG_look List.mem_cons_self, e1, e2]
  dsimp only
  cases q : es.toList.find? (·.key.isStr x) with
  | some e => rfl
  | none =>
    have h2 : es.toList.any (·.refKey) = false := by
      rw [List.any_eq_false]
      intro e he hr
      have := List.all_eq_true.mp (He.ba (He.ba k).2).1 e (by rw [e2]; exact he)
      rw [hr] at this
      cases this
    simp only [h2]
    rfl
theorem ns_pick (k : keysGood g = true) {xs : List Str} (ok : (xs.all fun x => decide (x ∉ startupNames) && decide (FDT.namesA.count x ≤ 1)) = true) {i : Nat} {v : Value} (h : (pick xs (ents g))[i]? = some v) :
    ∃ x, xs[i]? = some x ∧ PySem.W.nsIn (K0 g) mainGlobals x = some (some v) := by
  obtain ⟨x, e, h1, h2, h3, h4⟩ := pick_at h
  refine ⟨x, h1, ?_⟩
  obtain ⟨o1, o2⟩ := He.ba (List.all_eq_true.mp ok x (List.mem_of_getElem? h1))
  have o1 := of_decide_eq_true o1
  have o2 := of_decide_eq_true o2
  have hs := subK_sub _ _ (He.ba (He.ba k).2).2
  have hc : (ksOf (ents g)).count x ≤ 1 := by
    rw [← List.takeWhile_append_dropWhile (p := fun k => startupNames.contains k) (l := ksOf (ents g)), List.count_append]
    have z : (List.takeWhile (fun k => startupNames.contains k) (ksOf (ents g))).count x = 0 := by
      rw [List.count_eq_zero]
      intro hx
      exact o1 (List.contains_iff_mem.mp (tw_imp (p := fun k => startupNames.contains k) hx))
    have := hs.count_le x
    omega
  obtain ⟨e', h5, h6⟩ := find_u hc h2 h3
  rw [ns_find k, h5]
  dsimp only
  rw [h6, h4]
theorem free_B (k : keysGood g = true) {x : Str} (h1 : x ∉ startupNames) (h2 : x ∉ FDT.namesA) : (He.Fa.free x).ok (frH g) = true := by
  show He.eqO (PySem.W.nsIn (frH g) mainGlobals x) (some none) = true
  refine decide_eq_true ?_
  rw [ns_eq, ns_find k]
  cases q : (ents g).find? (·.key.isStr x) with
  | none => rfl
  | some e =>
    have hx := ks_mem (List.mem_of_find?_eq_some q) (List.find?_some (p := fun e : DictEntry => e.key.isStr x) q)
    rcases FDT.dropW_mem (p := fun k => startupNames.contains k) _ x hx with h3 | h3
    · exact absurd (List.contains_iff_mem.mp h3) h1
    · exact absurd (FDT.subK_mem _ _ (He.ba (He.ba k).2).2 x h3) h2
theorem ok_glN : (glN.all fun x => decide (x ∉ startupNames) && decide (FDT.namesA.count x ≤ 1)) = true := by decide +kernel
theorem ok_gnX : (gnX.all fun x => decide (x ∉ startupNames) && decide (FDT.namesA.count x ≤ 1)) = true := by decide +kernel
theorem ok_free : (frees.all fun x => decide (x ∉ startupNames) && decide (x ∉ FDT.namesA)) = true := by decide +kernel
/-- a name and its address -/
theorem ga_pick (k : keysGood g = true) {xs : List Str} (ok : (xs.all fun x => decide (x ∉ startupNames) && decide (FDT.namesA.count x ≤ 1)) = true) (pk : pkB g xs = true) {i : Nat} {x : Str} (hi : xs[i]? = some x) :
    ∃ a, (pick xs (ents g))[i]? = some (.ref a) ∧ PySem.W.nsIn (K0 g) mainGlobals x = some (some (.ref a)) ∧ He.ga (frH g) x = a := by
  obtain ⟨p1, p2⟩ := He.ba pk
  have p2 := of_decide_eq_true p2
  have hl : i < xs.length := (List.getElem?_eq_some_iff.mp hi).1
  have hv : (pick xs (ents g))[i]? = some ((pick xs (ents g))[i]'(by omega)) := List.getElem?_eq_getElem _
  have hr := List.all_eq_true.mp p1 _ (List.mem_of_getElem? hv)
  obtain ⟨x', h1, h2⟩ := ns_pick k ok hv
  have ex : x' = x := Option.some.inj (h1.symm.trans hi)
  subst ex
  revert hr hv h2
  generalize (pick xs (ents g))[i]'(by omega) = v
  intro hv hr h2
  cases v with
  | ref a => exact ⟨a, hv, h2, by unfold He.ga; rw [ns_eq, h2]⟩
  | _ => cases hr
theorem glo_B (k : keysGood g = true) {xs : List Str} (ok : (xs.all fun x => decide (x ∉ startupNames) && decide (FDT.namesA.count x ≤ 1)) = true) (pk : pkB g xs = true) {x : Str} (hx : x ∈ xs) : (He.Fa.glo x).ok (frH g) = true := by
  obtain ⟨i, hi⟩ := List.getElem?_of_mem hx
  obtain ⟨a, _, h2, h3⟩ := ga_pick k ok pk hi
  show He.eqO (PySem.W.nsIn (frH g) mainGlobals x) (some (some (.ref (He.ga (frH g) x)))) = true
  refine decide_eq_true ?_
  rw [h3, ns_eq, h2]
/-- the def at i: its address -/
theorem gl_pick (k : keysGood g = true) (pk : pkB g glN = true) {i : Nat} {p : Str × Stmt} (hi : gls[i]? = some p) : ∃ a, (pick glN (ents g))[i]? = some (.ref a) ∧ He.ga (frH g) p.1 = a ∧ a ∈ adrsF g := by
  have h1 : glN[i]? = some p.1 := by
    unfold glN
    rw [List.getElem?_map, hi]
    rfl
  obtain ⟨a, h2, _, h3⟩ := ga_pick k ok_glN pk h1
  exact ⟨a, h2, h3, List.mem_map.mpr ⟨.ref a, List.mem_of_getElem? h2, rfl⟩⟩
theorem gl_w {p : Str × Stmt} {a : Addr} (ea : He.ga (frH g) p.1 = a) (ha : a ∈ adrsF g) (e : wG g a = (gFx p).val) : (gFx p).w (frH g) = (gFx p).val := by
  rw [← e]
  unfold Fx.w wG
  show (match (frH g).lookup (He.ga (frH g) p.1) with
    | some ⟨_, _, .func fd, _⟩ => _
    | _ => _) = _
  rw [ea]
  unfold wG at e
  cases q : (subG g a).lookup a with
  | none =>
    rw [q] at e
    cases e
  | some o =>
    rw [sub_K ha q]
    all_goals rfl
theorem gl_ok {p : Str × Stmt} {a : Addr} (ea : He.ga (frH g) p.1 = a) (ha : a ∈ adrsF g) (e : okG g p.1 a = true) : (gFx p).ok (frH g) = true := by
  unfold okG at e
  unfold Fx.ok
  show (PySem.W.keepIn (frH g) (.ref (He.ga (frH g) p.1)) && (match (frH g).lookup (He.ga (frH g) p.1) with
    | some ⟨_, _, .func fd, _⟩ => PySem.W.codeIn (frH g) fd.code p.1 && dflN (frH g) fd.defaults 0
    | _ => false)) = true
  rw [ea]
  cases q : (subG g a).lookup a with
  | none =>
    rw [q] at e
    cases e
  | some o =>
    rw [q] at e
    obtain ⟨c1, c2, dt, c4⟩ := o
    cases dt with
    | func fd =>
      have q2 := sub_K ha q
      obtain ⟨e1, e2⟩ := He.ba (show (PySem.W.codeIn (subG g a) fd.code p.1 && dflN (subG g a) fd.defaults 0) = true from e)
      have k1 : PySem.W.keepIn (frH g) (.ref a) = true := by
        simp only [PySem.W.keepIn, q2]
      rw [k1, q2]
      show (PySem.W.codeIn (frH g) fd.code p.1 && dflN (frH g) fd.defaults 0) = true
      have k2 : PySem.W.codeIn (frH g) fd.code p.1 = true := by
        unfold PySem.W.codeIn at e1 ⊢
        cases hc : fd.code with
        | ref c =>
          rw [hc] at e1
          cases q3 : (subG g a).lookup c with
          | none =>
            simp only [q3] at e1
            cases e1
          | some o2 =>
            have q4 := sub_K ha q3
            simp only [q3] at e1
            simp only [q4]
            exact e1
        | _ =>
          rw [hc] at e1
          cases e1
      rw [k2]
      exact e2
    | _ => cases e
theorem says_of {w : World} (a : obA g = true) (b : obB g = true) (c : obC g = vaC) (t : tabs (frH g) = tabV w) : obsK (frH g) = valK w := by
  obtain ⟨kg, b⟩ := He.ba b
  obtain ⟨pN, b⟩ := He.ba b
  obtain ⟨pX, b⟩ := He.ba b
  obtain ⟨b2, b3⟩ := He.ba b
  have c1 := (Prod.mk.inj c).1
  have c2 := (Prod.mk.inj c).2
  have hk : chk (frH g) = true := by
    unfold chk
    refine List.all_eq_true.mpr fun f hf => ?_
    have h1 : chks = (chks.take 1 ++ (chks.drop 1).take 1) ++ chks.drop 2 := rfl
    rw [h1] at hf
    rcases List.mem_append.mp hf with hf | hf
    · rcases List.mem_append.mp hf with hf | hf
      · have hf2 : f ∈ [fun K : PySem.W.Frag => frees.all fun x => (He.Fa.free x).ok K] := hf
        rw [List.mem_singleton.mp hf2]
        exact List.all_eq_true.mpr fun x hx => by
          obtain ⟨o1, o2⟩ := He.ba (List.all_eq_true.mp ok_free x hx)
          exact free_B kg (of_decide_eq_true o1) (of_decide_eq_true o2)
      · have hf2 : f ∈ [fun K : PySem.W.Frag => gnames.all fun x => (He.Fa.glo x).ok K] := hf
        rw [List.mem_singleton.mp hf2]
        exact List.all_eq_true.mpr fun x hx => by
          rcases List.mem_append.mp (show x ∈ glN ++ gnX from hx) with hx | hx
          · exact glo_B kg ok_glN pN hx
          · exact glo_B kg ok_gnX pX hx
    · exact List.all_eq_true.mp a f hf
  have hok : (fxs.all fun d => d.ok (frH g)) = true := by
    refine List.all_eq_true.mpr fun d hd => ?_
    rcases List.mem_append.mp (show d ∈ gls.map gFx ++ fxM from hd) with hd | hd
    · obtain ⟨p, hp, rfl⟩ := List.mem_map.mp hd
      obtain ⟨i, hi⟩ := List.getElem?_of_mem hp
      obtain ⟨q, h1, h2, h3⟩ := gl_pick kg pN hi
      have hz : (gls.zip (pick glN (ents g)))[i]? = some (p, .ref q) := by
        rw [List.getElem?_zip_eq_some]
        exact ⟨hi, h1⟩
      exact gl_ok h2 h3 (List.all_eq_true.mp b2 _ (List.mem_of_getElem? hz))
    · exact List.all_eq_true.mp b3 d hd
  have hw : (fxs.map fun d => d.w (frH g)) = fxs.map Fx.val := by
    unfold fxs
    rw [List.map_append, List.map_append]
    refine congr (congrArg _ ?_) c2
    rw [List.map_map, List.map_map]
    refine List.map_congr_left fun p hp => ?_
    obtain ⟨i, hi⟩ := List.getElem?_of_mem hp
    obtain ⟨q, h1, h2, h3⟩ := gl_pick kg pN hi
    refine gl_w h2 h3 ?_
    have h4 : ((pick glN (ents g)).map fun v => wG g (adr v))[i]? = some (wG g q) := by
      rw [List.getElem?_map, h1]
      rfl
    have h5 : (gls.map fun p => (gFx p).val)[i]? = some (gFx p).val := by
      rw [List.getElem?_map, hi]
      rfl
    rw [c1, h5] at h4
    exact (Option.some.inj h4).symm
  unfold obsK valK
  rw [hk, hok, hw, t]
  rfl
end
abbrev AlN : Type := Bool × (Bool × ((List He.FnW × List He.FnW) × List (Option (List (Option (Str × Int))))))
def obN (g : Addr → Option Obj) : AlN := (obA g, obB g, obC g, tabs (frH g))
def vaN (w : World) : AlN := (true, true, vaC, tabV w)
theorem says_ofN {w : World} {g : Addr → Option Obj} (e : obN g = vaN w) : Says w (frH g) := says_of (congrArg (fun z : AlN => z.1) e) (congrArg (fun z : AlN => z.2.1) e) (congrArg (fun z : AlN => z.2.2.1) e) (congrArg (fun z : AlN => z.2.2.2) e)
def hookH : PySem.W.Hook where
  α := AlN
  obs := fun s => obN s.heap.get?
  val := fun w => vaN w
  says := fun w h => ∃ K : PySem.W.Frag, K.In h ∧ Says w K
  of := fun _ _ e => ⟨_, He.frG_in, says_ofN e⟩
  keeps := fun _ _ _ ⟨K, hK, c⟩ k => ⟨K, PySem.W.Frag.In.keeps hK k, c⟩
theorem obN_eq {g : Addr → Option Obj} {s : Shared} (h : ∀ a, g a = s.heap.get? a) : obN g = hookH.obs s := by
  have e : g = s.heap.get? := funext h
  rw [e] <;> rfl
end FD
end
section
set_option maxHeartbeats 0
namespace FDT
open FD
noncomputable section
open PySem PySem.Spec PyProof.Rows L2 PySem.W PySem.Calls
/-! the looks off the tree are the library's -/
section
variable {h : Heap} {a : Addr} {x : PySem.Str}
theorem isD_eq : h.isNs a = isD h.get? a := by
  unfold isD dE Heap.isNs
  cases h.get? a with
  | none => rfl
  | some o =>
    obtain ⟨c, d, dt, sl⟩ := o
    cases dt with
    | dict es ep =>
      show es.all _ = es.toList.all _
      rw [Array.all_toList]
      congr 1
      funext e
      unfold kE
      cases e.key <;> rfl
    | _ => rfl
theorem kysD_eq : h.nsKeys a = kysD h.get? a := by
  unfold kysD dE Heap.nsKeys
  cases h.get? a with
  | none => rfl
  | some o =>
    obtain ⟨c, d, dt, sl⟩ := o
    cases dt <;> rfl
theorem prsD_eq : h.nsPairs a = prsD h.get? a := by
  unfold prsD dE Heap.nsPairs
  cases h.get? a with
  | none => rfl
  | some o =>
    obtain ⟨c, d, dt, sl⟩ := o
    cases dt with
    | dict es ep =>
      show es.toList.filterMap _ = es.toList.filterMap _
      congr 1
      funext e
      unfold kE
      cases e.key <;> rfl
    | _ => rfl
theorem mapD_eq : h.nsMap a x = mapD h.get? a x := by
  unfold mapD dE Heap.nsMap
  cases h.get? a with
  | none => rfl
  | some o =>
    obtain ⟨c, d, dt, sl⟩ := o
    cases dt with
    | dict es ep =>
      show (es.find? _).map _ = (es.toList.find? _).map _
      rw [Array.find?_toList]
    | _ => rfl
theorem cdD_eq {cd : Value} : h.codeRecOk cd x = cdD h.get? cd x := by
  unfold cdD Heap.codeRecOk
  cases cd with
  | ref c =>
    dsimp only
    cases h.get? c with
    | none => rfl
    | some o =>
      obtain ⟨c, d, dt, sl⟩ := o
      cases dt <;> rfl
  | _ => rfl
theorem fdD_eq : fdD h.get? x = (h.fnAt mainGlobals x).map fun z => z.2.2 := by
  unfold fdD Heap.fnAt
  rw [mapD_eq]
  cases mapD h.get? mainGlobals x with
  | none => rfl
  | some v =>
    cases v with
    | ref a =>
      dsimp only
      cases h.get? a with
      | none => rfl
      | some o =>
        obtain ⟨c, d, dt, sl⟩ := o
        cases dt <;> rfl
    | _ => rfl
theorem shD_eq : h.shapeAt mainGlobals x = shD h.get? x := by
  unfold shD Heap.shapeAt
  rw [fdD_eq]
  cases h.fnAt mainGlobals x with
  | none => rfl
  | some z =>
    show some _ = some _
    dsimp only
    rw [cdD_eq]
theorem t0D_ok (q : t0D h.get? a = true) : (h.tab0At a).isSome = true := by
  unfold t0D at q
  unfold Heap.tab0At
  cases e : h.get? a with
  | none => rw [e] at q; cases q
  | some o =>
    rw [e] at q
    obtain ⟨c, d, dt, sl⟩ := o
    cases c with
    | type n =>
      cases dt with
      | fields vs =>
        simp only [Bool.and_eq_true] at q
        obtain ⟨q0, q1, q2, q3, q4, q5⟩ := q
        dsimp only
        rw [if_pos q0]
        cases e1 : (vs[11]? : Option Value) with
        | none => rw [e1] at q1; cases q1
        | some v1 =>
          cases v1 with
          | ref p =>
            rw [e1] at q1
            cases e2 : (vs[18]? : Option Value) with
            | none => rw [e2] at q2; cases q2
            | some v2 =>
              cases v2 with
              | str =>
                cases e3 : (vs[7]? : Option Value) with
                | none => rw [e3] at q3; cases q3
                | some v3 =>
                  cases v3 with
                  | int =>
                    cases e4 : (vs[9]? : Option Value) with
                    | none => rw [e4] at q4; cases q4
                    | some v4 =>
                      cases v4 with
                      | bool =>
                        cases e5 : (vs[10]? : Option Value) with
                        | none => rw [e5] at q5; cases q5
                        | some v5 =>
                          cases v5 with
                          | int =>
                            simp only [Bool.and_eq_true] at q1
                            obtain ⟨r1, r2⟩ := q1
                            unfold noF at r2
                            dsimp only
                            cases e6 : h.get? p with
                            | none => rw [e6] at r2; cases r2
                            | some o2 =>
                              rw [e6] at r2
                              obtain ⟨c2, d2, dt2, sl2⟩ := o2
                              cases c2 with
                              | none =>
                                cases d2 with
                                | none =>
                                  cases dt2 with
                                  | fields ps =>
                                    dsimp only at r2 ⊢
                                    rw [r2, r1]
                                    rfl
                                  | _ => cases r2
                                | some _ => cases r2
                              | _ => cases r2
                          | _ => rw [e5] at q5; cases q5
                      | _ => rw [e4] at q4; cases q4
                  | _ => rw [e3] at q3; cases q3
              | _ => rw [e2] at q2; cases q2
          | _ => rw [e1] at q1; cases q1
      | _ => cases q
    | _ => cases q
theorem tbD_ok (q : tbD h.get? x = true) : h.tab0Ok x = true := by
  unfold tbD at q
  rw [fdD_eq] at q
  unfold Heap.tab0Ok
  cases e : h.fnAt mainGlobals x with
  | none => rw [e] at q; cases q
  | some z =>
    obtain ⟨u, v, fd⟩ := z
    rw [e] at q
    dsimp only [Option.map] at q ⊢
    cases e2 : fd.code with
    | ref c =>
      rw [e2] at q
      exact t0D_ok q
    | _ => rw [e2] at q; cases q
theorem bmD_ok (q : bmD h.get? = true) : h.bmainOk = true := by
  unfold bmD at q
  unfold Heap.bmainOk
  rw [mapD_eq]
  cases e : mapD h.get? mainGlobals "__builtins__" with
  | none => rw [e] at q; cases q
  | some v =>
    rw [e] at q
    cases v with
    | ref b => exact q
    | _ => cases q
end
/-! what the view holds -/
theorem recs_names : (recsOf Qv).map (·.name) = (["law"] : List PySem.Str) := by kernel_rfl
theorem recs_len : (recsOf Qv).length = 1 := by kernel_rfl
theorem recs_one : ∃ d, recsOf Qv = [d] ∧ d.name = ("law" : PySem.Str) := by
  have h1 := recs_names
  have h2 := recs_len
  revert h1 h2
  cases recsOf Qv with
  | nil => intro _ h2; cases h2
  | cons d r =>
    cases r with
    | nil => intro h1 _; exact ⟨d, rfl, (List.cons.inj h1).1⟩
    | cons _ _ => intro _ h2; cases h2
theorem owns_nil : ownsOf Qv = [] := by kernel_rfl
theorem vals_nil : valNames Qv = [] := by kernel_rfl
theorem drecs_nil : drecsOf Qv = [] := by kernel_rfl
theorem mods_nil : importedModules R.prog.main.body = [] := by kernel_rfl
theorem plains_nil : plainsOf Qv (looseW Qv names) = [] := by kernel_rfl
theorem dclss_nil : dclssOf Qv names = [] := by kernel_rfl
theorem wdefs_nil : wdefsOf Qv = [] := by kernel_rfl
theorem wlits_nil : wlitsOf Qv = [] := by kernel_rfl
theorem wclss_nil : wclssOf Qv names = [] := by kernel_rfl
theorem mathM_nil : Flt.mathMods Qv = [] := by kernel_rfl
theorem mathD_nil : Flt.mathDrawn Qv = [] := by kernel_rfl
theorem pats_nil : Flt.patsOf Qv = [] := by kernel_rfl
theorem rec_nil : R.toRowW.records = [] := by kernel_rfl
theorem xt_ok (s : Shared) : (xlAt Qv [] s && recOk R.toRowW.records s) = true := by
  unfold xlAt Flt.mathXt
  rw [mathM_nil, mathD_nil, pats_nil, rec_nil]
  rfl
theorem names_loose {k : PySem.Str} (hk : k ∈ names) : k ∈ looseW Qv names := by
  unfold looseW looseD heldW
  exact List.mem_append_left _ (List.mem_append_left _ (List.mem_append_left _ hk))
theorem names_in : (namesA.all fun k => R.prog.boundNames.contains k) = true := by kernel_rfl
/-- a key of the module is the start's, or it is known -/
theorem nbD_key {h : Heap} (c : nbD h.get? = true) {k : PySem.Str} (hk : k ∈ h.nsKeys mainGlobals) : startupNames.contains k = true ∨ k ∈ namesA := by
  rw [kysD_eq] at hk
  rcases dropW_mem (p := fun k => startupNames.contains k) _ k hk with h1 | h1
  · exact .inl h1
  · exact .inr (subK_mem _ _ c k h1)
theorem ands {a b : Bool} (h : (a && b) = true) : a = true ∧ b = true := Bool.and_eq_true_iff.mp h
theorem bs_of {s : Shared} {h0 : Heap} (c : bsD h0 s.heap.get? s.gens = true) :
    ((s.gens.toList.isEmpty = true ∧ s.heap.isNs mainGlobals = true ∧ s.heap.isNs builtinsNs = true ∧ s.heap.isNs cStatics = true) ∧ (s.heap.noLimitOk = true ∧ s.heap.noDigitsOk = true ∧ s.heap.noSeerOk = true)) ∧
    (s.heap.bmainOk = true ∧ s.heap.tab0Ok "law" = true ∧ acD s.heap.get? = true) ∧ stD h0 s.heap.get? = true ∧ ldD h0 s.heap.get? = true ∧ nbD s.heap.get? = true := by
  unfold bsD at c
  obtain ⟨c1, c⟩ := ands c
  obtain ⟨c2, c⟩ := ands c
  obtain ⟨c3, c⟩ := ands c
  obtain ⟨c4, c⟩ := ands c
  obtain ⟨c5, c⟩ := ands c
  obtain ⟨c6, c⟩ := ands c
  obtain ⟨c7, c⟩ := ands c
  obtain ⟨c8, c⟩ := ands c
  obtain ⟨c9, c⟩ := ands c
  obtain ⟨d1, c⟩ := ands c
  obtain ⟨d2, c⟩ := ands c
  obtain ⟨d3, c⟩ := ands c
  obtain ⟨d4, c⟩ := ands c
  obtain ⟨d5, c⟩ := ands c
  obtain ⟨d6, d7⟩ := ands c
  unfold noD at c6 c7 c8 c9 d1
  rw [← isD_eq] at c2 c3 c4 c5
  rw [← mapD_eq] at c6 c7 c8 c9 d1
  refine ⟨⟨⟨c1, c2, c3, c4⟩, ?_, ?_, ?_⟩, ⟨bmD_ok d2, tbD_ok d3, d4⟩, d5, d6, d7⟩
  · unfold Heap.noLimitOk
    rw [c4, c6]
    rfl
  · unfold Heap.noDigitsOk
    rw [c4, c7]
    rfl
  · unfold Heap.noSeerOk
    rw [c4, c8, c9, c5, d1]
    rfl
theorem statics_of {h0 h : Heap} (hc : h.isNs cStatics = true) (c : stD h0 h.get? = true) : staticsOk (importedModules R.prog.main.body) h0 h = true := by
  unfold stD at c
  obtain ⟨a, b⟩ := ands c
  unfold staticsOk
  rw [a, hc, kysD_eq (h := h)]
  show List.all _ _ = true
  refine List.all_eq_true.mpr fun k hk => ?_
  have q := List.all_eq_true.mp b k hk
  rw [mapD_eq (h := h)]
  rcases Bool.or_eq_true_iff.mp q with q | q
  · rw [q]
    rfl
  · rcases Bool.or_eq_true_iff.mp q with q | q
    · rw [q, Bool.or_true]
      rfl
    · rcases Bool.or_eq_true_iff.mp q with q | q
      · obtain ⟨q1, q2⟩ := ands q
        rw [q1, q2]
        simp
      · rw [q, Bool.or_true]
theorem looks_of {w : World} {s : Shared} (c : bsD (boot_heap w.params) s.heap.get? s.gens = true) : HandSHeadRun.looksF R.prog (boot_heap w.params) s = true := by
  obtain ⟨⟨⟨c1, c2, c3, c4⟩, -, -, -⟩, -, d5, d6, d7⟩ := bs_of c
  unfold HandSHeadRun.looksF
  rw [statics_of c4 d5]
  have e2 : namesBound R.prog s.heap = true := by
    unfold namesBound
    rw [c2]
    refine List.all_eq_true.mpr fun k hk => ?_
    rcases nbD_key d7 hk with h1 | h1
    · rw [h1]
      rfl
    · rw [List.all_eq_true.mp names_in k h1, Bool.or_true]
  have e3 : gensDone s = true := by
    unfold gensDone
    rw [List.isEmpty_iff.mp c1]
    rfl
  have e4 : laidKept (boot_heap w.params) s.heap = true := by
    unfold ldD at d6
    obtain ⟨f1, f2⟩ := ands d6
    unfold laidKept
    rw [f1, c2]
    refine List.all_eq_true.mpr fun x hx => ?_
    rw [mapD_eq (h := s.heap)]
    exact List.all_eq_true.mp f2 x hx
  rw [e2, e3, e4]
  rfl
theorem seen_of {h0 : Heap} {s : Shared} (c : abD h0 s.heap.get? s.gens = abV) :
    HandSHeadRun.seenQ Qv names (importedModules R.prog.main.body) (fun s => xlAt Qv [] s && recOk R.toRowW.records s) s = openGood Qv names := by
  obtain ⟨c1, c⟩ := Prod.mk.inj c
  obtain ⟨c2, c3⟩ := Prod.mk.inj c
  obtain ⟨⟨⟨b1, b2, b3, b4⟩, n1, n2, n3⟩, ⟨d2, d3, d4⟩, d5, d6, d7⟩ := bs_of c3
  obtain ⟨d, hd, hn⟩ := recs_one
  rw [← HandSHeadRun.seenQ_eq]
  unfold openSeen openGood
  refine Prod.ext ?_ (Prod.ext ?_ (Prod.ext ?_ (Prod.ext ?_ (Prod.ext ?_ (Prod.ext ?_ (Prod.ext ?_ (Prod.ext ?_ ?_)))))))
  · show seen ((recsOf Qv).map (·.name)) (ownsOf Qv) [] { s with gens := #[] } = expectedOf Qv
    unfold seen expectedOf
    rw [hd] at c1 ⊢
    rw [owns_nil]
    show (⟨[s.heap.shapeAt mainGlobals d.name], true, [], s.heap.isNs mainGlobals, s.heap.isNs builtinsNs, s.heap.noLimitOk && s.heap.noDigitsOk, 0⟩ : Seen) = ⟨[some d.shape], true, [], true, true, true, 0⟩
    rw [b2, b3, n1, n2, hn, shD_eq, c1]
    rfl
  · show s.heap.bltView = bltViewBooted
    unfold Heap.bltView
    rw [prsD_eq]
    exact c2
  · show (s.heap.keysOk (looseW Qv names) ((recsOf Qv).map (·.name)) ((litsOf Qv).map (·.1)) ((clssOf Qv (looseW Qv names)).map (·.name)) && s.heap.accountedOkI (importedModules R.prog.main.body) && s.heap.isNs mainGlobals && s.heap.isNs builtinsNs && tablesOk Qv s.heap &&
      (xlAt Qv [] s && recOk R.toRowW.records s) && (if true then s.gens.size == 0 else !leftWithCleanup s.gens)) = true
    have e1 : s.heap.keysOk (looseW Qv names) ((recsOf Qv).map (·.name)) ((litsOf Qv).map (·.1)) ((clssOf Qv (looseW Qv names)).map (·.name)) = true := by
      unfold Heap.keysOk
      refine List.all_eq_true.mpr fun k hk => ?_
      rcases nbD_key d7 hk with h1 | h1
      · rw [h1]
        rfl
      · rcases List.mem_append.mp h1 with h1 | h1
        · rw [List.contains_iff_mem.mpr (names_loose h1)]
          simp
        · have h2 : ((recsOf Qv).map (·.name)).contains k = true := by
            rw [recs_names]
            exact List.contains_iff_mem.mpr h1
          rw [h2]
          simp
    have e2 : s.heap.accountedOkI (importedModules R.prog.main.body) = true := by
      unfold Heap.accountedOkI
      rw [b4, mods_nil, kysD_eq]
      refine List.all_eq_true.mpr fun k hk => ?_
      rcases Bool.or_eq_true_iff.mp (List.all_eq_true.mp d4 k hk) with h1 | h1
      · rw [h1]
        simp
      · rw [h1]
        simp
    have e3 : tablesOk Qv s.heap = true := by
      unfold tablesOk
      rw [vals_nil]
      rfl
    have e4 : (s.gens.size == 0) = true := by
      have : s.gens.toList = [] := List.isEmpty_iff.mp b1
      rw [← Array.length_toList, this]
      rfl
    rw [e1, e2, b2, b3, e3, xt_ok, if_pos rfl, e4]
    rfl
  · show tabsOk Qv s = true
    unfold tabsOk valsOk
    rw [vals_nil, hd, n3, d2]
    show (((s.heap.tab0Ok d.name && true) && true && true) && _) = true
    rw [hn, d3, Bool.or_true]
    rfl
  · show pinSeenD Qv (drecsOf Qv) s = pinGoodD (drecsOf Qv)
    rw [drecs_nil]
    rfl
  · show plainSeenE Qv (looseW Qv names) s = plainGoodE Qv (looseW Qv names)
    unfold plainSeenE plainGoodE
    rw [plains_nil]
    rfl
  · show plainSeenD Qv names s = plainGoodD Qv names
    unfold plainSeenD plainGoodD
    rw [dclss_nil]
    rfl
  · show wideSeen Qv s = wideGood Qv
    unfold wideSeen wideGood
    rw [wdefs_nil, wlits_nil]
    rfl
  · show clsSeenW Qv names s = clsGoodW Qv names
    unfold clsSeenW clsGoodW
    rw [wclss_nil]
    rfl
theorem RunP.at_ {α : Type} {f : World → PySem.W.SharedT → α} {v : World → α} {w : World} (h : RunP f v w) {os : OsState} {s : PySem.W.SharedT} (e : HandSHeadRun.endF (HandSHeadRun.stepQ (HandSHeadRun.denQ HandSHeadRun.tabQ) R.prog w) 13000 R.prog w os = some s) : f w s = v w := by
  have := h os
  rw [e] at this
  exact Option.some.inj this
def obT (s : PySem.W.SharedT) : AlN := obN (HandSHeadRun.getT s)
theorem obT_eq (s : PySem.W.SharedT) : obT s = hookH.obs s.abs := obN_eq (HandSHeadRun.getT_eq s)
theorem ks_eq : ∀ {es : List DictEntry}, (es.all fun e => (kE e).isSome) = true → (es.all fun e => !e.refKey) = true ∧ ksOf es = es.filterMap kE
  | [], _ => ⟨rfl, rfl⟩
  | e :: es, q => by
    obtain ⟨q1, q2⟩ := ands q
    obtain ⟨h1, h2⟩ := ks_eq q2
    have q1 : (kE e).isSome = true := q1
    unfold kE at q1
    cases ek : e.key with
    | str n u =>
      have r1 : e.refKey = false := by
        unfold DictEntry.refKey
        rw [ek]
      refine ⟨?_, ?_⟩
      · show (!e.refKey && es.all fun e => !e.refKey) = true
        rw [r1, h1]
        rfl
      · have k1 : kE e = some n := by
          unfold kE
          rw [ek]
        rw [List.filterMap_cons_some k1, ← h2]
        unfold ksOf
        rw [List.map_cons, ek]
    | _ =>
      rw [ek] at q1
      cases q1
theorem keys_of {h0 : Heap} {s : Shared} (c : abD h0 s.heap.get? s.gens = abV) : keysGood s.heap.get? = true := by
  obtain ⟨c1, c⟩ := Prod.mk.inj c
  obtain ⟨c2, c3⟩ := Prod.mk.inj c
  obtain ⟨⟨⟨-, b2, -, -⟩, -, -, -⟩, -, -, -, d7⟩ := bs_of c3
  obtain ⟨d, hd, hn⟩ := recs_one
  rw [hd] at c1
  rw [isD_eq] at b2
  generalize s.heap.get? = g at c1 b2 d7 ⊢
  unfold isD at b2
  unfold nbD kysD at d7
  have eE : ents g = (dE g mainGlobals).getD [] := by
    unfold ents dE
    cases g mainGlobals with
    | none => rfl
    | some o =>
      obtain ⟨c, d, dt, sl⟩ := o
      cases dt <;> rfl
  have hm : mapD g mainGlobals "law" ≠ none := by
    intro e
    unfold shD fdD at c1
    rw [e] at c1
    cases c1
  unfold mapD at hm
  unfold keysGood
  rw [eE]
  cases e : dE g mainGlobals with
  | none =>
    rw [e] at b2
    cases b2
  | some es =>
    rw [e] at b2 d7 hm
    obtain ⟨k1, k2⟩ := ks_eq b2
    show (!es.isEmpty && ((es.all fun e => !e.refKey) && subK ((ksOf es).dropWhile fun k => startupNames.contains k) namesA)) = true
    rw [k1, k2, show subK ((es.filterMap kE).dropWhile fun k => startupNames.contains k) namesA = true from d7]
    cases es with
    | nil => exact absurd rfl hm
    | cons _ _ => rfl
theorem run_of {w : World} (a : RA w) (b : RB w) (c : RC w) : HandSHeadRun.RunEq R Qv hookH obT 13000 names w := by
  intro os
  obtain ⟨s, hs, ha⟩ := Option.map_eq_some_iff.mp (a os)
  have hb := b.at_ hs
  have hc := c.at_ hs
  have eg : HandSHeadRun.getT s = s.abs.heap.get? := funext (HandSHeadRun.getT_eq s)
  obtain ⟨ha, ha2⟩ := Prod.mk.inj ha
  obtain ⟨h3, h4⟩ := Prod.mk.inj ha2
  have ha : abD (boot_heap w.params) s.abs.heap.get? s.abs.gens = abV := by
    rw [← eg]
    exact ha
  rw [hs]
  refine congrArg some (Prod.ext (looks_of (congrArg (fun z => z.2.2) ha)) (Prod.ext (seen_of ha) ?_))
  show (obA (HandSHeadRun.getT s), obB (HandSHeadRun.getT s), obC (HandSHeadRun.getT s), tabs (frH (HandSHeadRun.getT s))) = vaN w
  have h1 : obA (HandSHeadRun.getT s) = true := hc
  have h2 : obB (HandSHeadRun.getT s) = true := by
    unfold obB
    rw [show obR (HandSHeadRun.getT s) = true from hb, eg, keys_of ha]
    rfl
  have h4 : tabs (frH (HandSHeadRun.getT s)) = tabV w := h4
  rw [h1, h2, h3, h4]
  rfl
theorem run_any (w : World) : HandSHeadRun.RunEq R Qv hookH obT 13000 names w := PySem.W.byRow2 "special-get-raises" (fun w => run_of (rA0 w) (rB0 w) (rC0 w)) (fun w => run_of (rA1 w) (rB1 w) (rC1 w)) w
end
end FDT
end
section
set_option maxHeartbeats 0
/-! what the head leaves to be shown -/
open PySem PySem.W PySem.Calls PyProof.Rows
theorem FDT.holds_of (hcall : WalkO (view (OpenLaw.row PySem.Challenge.rw_firstdecides_k72_whole_papers_bent).prog [180]) FDT.names (XL (view (OpenLaw.row PySem.Challenge.rw_firstdecides_k72_whole_papers_bent).prog [180]) []) FD.hookH.says (OpenLaw.row PySem.Challenge.rw_firstdecides_k72_whole_papers_bent).toRowW (HandSHeadRun.topDef (OpenLaw.row PySem.Challenge.rw_firstdecides_k72_whole_papers_bent).prog 180) [] fun f vs => PySem.call f vs) : PySem.Challenge.rw_firstdecides_k72_whole_papers_bent.Holds := by
  w_on; o_law
  refine HandSHeadRun.head_any (r := OpenLaw.row PySem.Challenge.rw_firstdecides_k72_whole_papers_bent) (q := view (OpenLaw.row PySem.Challenge.rw_firstdecides_k72_whole_papers_bent).prog [180]) (H := FD.hookH) (ob := FDT.obT) (M := 13000) (loose := FDT.names) (d := HandSHeadRun.topDef (OpenLaw.row PySem.Challenge.rw_firstdecides_k72_whole_papers_bent).prog 180) (kwd := []) FDT.obT_eq
    (by kernel_rfl) (fun s => by kernel_rfl) FDT.run_any (by kernel_rfl) (by kernel_rfl) (by kernel_rfl) (by rfl) (by first | assumption | decide +kernel) (by decide +kernel) ⟨rfl, rfl, rfl, rfl, rfl, by decide +kernel⟩ ?hw hcall
  case hw => w_witness2
end
section
set_option maxHeartbeats 2000000
/-! rules that the layer lacks: a class called with starred arguments, own + and in, a static method -/
namespace FD
open PySem PySem.Spec PyProof.Rows L2

/-- a new instance of C from the values vs -/
def Mkq (C : Addr) (sp : Sp) (vs : List V) (H : Hp) (Q : VK) : Prop :=
  ∀ x dx, H x = Option.none → H dx = Option.none → dx ≠ x → sp (V.ref x :: vs) (upd (upd H dx (.own x)) x (.ins C dx [])) (fun v H2 => v = .non ∧ Q (.ref x) H2) E0
section
variable {X : Cx} {k : Nat} {f C : Addr} {sp : Sp} {x m : Str} {e o : Expr} {es : List Expr} {te ta : TE} {t : TA} {p sp_ pos apos : Pos}
theorem pe_mkS1 (M : Mk X.K C f) (F : FnR X.prog X.w X.K X.mg X.base CX0 k f sp) (hr : Room (k + 1) X.A) (hg : Gl X x) (hm : X.mg x = some (.ref C)) (he : PE X e te)
    (hd : (x == ("__debug__" : Str)) = false := by decide) (hst : starEach [.Starred e sp_] X.env = [(true, eval e X.env)] := by rfl) :
    PE X (.Call (.Name x p) [.Starred e sp_] [] pos) (fun σ H Q => te σ H fun y H1 => ∃ a xs, y = V.ref a ∧ (SqT X.K H1 a xs ∨ SqL X.K H1 a xs) ∧ Mkq C sp xs H1 Q) := by
  constructor
  intro pins s σ H Q I h
  apply wpAny_Call_Name_kw
  apply ld_glob I hg hm (hd := hd)
  apply PySem.W.callWith_S (h₀ := X.base) I.ok.mod.kin M.kp (he := hst)
  refine thn (he.run pins s σ H _ I h) ?_
  rintro v s1 ⟨y, H1, I1, ry, a, xs, ey, hxs, q⟩
  subst ey
  obtain rfl : v = Value.ref a := ry
  exact StX.star_any I1 hxs fun us s2 I2 rv => And.intro I2.kIn (StX.run_makeR M F hr pass0 I2 rv q)
theorem pe_mkS2 (M : Mk X.K C f) (F : FnR X.prog X.w X.K X.mg X.base CX0 k f sp) (hr : Room (k + 1) X.A) (hg : Gl X x) (hm : X.mg x = some (.ref C)) (ha : PA X (e :: es) t)
    (hd : (x == ("__debug__" : Str)) = false := by decide) (he : starEach (e :: es) X.env = (false, eval e X.env) :: starEach es X.env := by rfl)
    (hst : (backTo pos (starEach es X.env)).any (·.1) = true := by rfl) :
    PE X (.Call (.Name x p) (e :: es) [] pos) (fun σ H Q => t σ H fun xs H1 => Mkq C sp xs H1 Q) := by
  constructor
  intro pins s σ H Q I h
  apply wpAny_Call_Name_kw
  apply ld_glob I hg hm (hd := hd)
  apply PySem.W.callWith_S2 (h₀ := X.base) I.ok.mod.kin M.kp (he := he) (hst := hst)
  refine thn (ha.run pos pins s σ H _ I h) ?_
  rintro us s1 ⟨xs, H1, I1, rv, q⟩
  exact And.intro I1.kIn (StX.run_makeR M F hr pass0 I1 rv q)
/-- a plain call of a class, by a promise of values -/
theorem pe_mk (M : Mk X.K C f) (F : FnR X.prog X.w X.K X.mg X.base CX0 k f sp) (hr : Room (k + 1) X.A) (hg : Gl X x) (hm : X.mg x = some (.ref C)) (ha : PA X (e :: es) t)
    (hd : (x == ("__debug__" : Str)) = false := by decide) (he : starEach (e :: es) X.env = (false, eval e X.env) :: starEach es X.env := by rfl)
    (hpl : (backTo pos (starEach es X.env)).any (·.1) = false := by rfl) :
    PE X (.Call (.Name x p) (e :: es) [] pos) (fun σ H Q => t σ H fun xs H1 => Mkq C sp xs H1 Q) := by
  constructor
  intro pins s σ H Q I h
  apply wpAny_Call_Name_kw
  apply ld_glob I hg hm (hd := hd)
  apply PySem.W.callWith_K (h₀ := X.base) I.ok.mod.kin M.kp (he := he) (hplain := hpl)
  refine thn (ha.run pos pins s σ H _ I h) ?_
  rintro us s1 ⟨xs, H1, I1, rv, q⟩
  exact And.intro I1.kIn (StX.run_makeR M F hr pass0 I1 rv q)

/-! ### calls by name, promise of values -/
/-- the module's name x holds a def that keeps sp at level k -/
structure Fd (P : Program) (w : World) (K : PySem.W.Frag) (mg : Str → Option Value) (base : Heap) (x : Str) (k : Nat) (sp : Sp) : Prop where
  ex : ∃ f, mg x = some (.ref f) ∧ PySem.W.keepIn K (.ref f) = true ∧ FnR P w K mg base CX0 k f sp
theorem pe_f (F : Fd X.prog X.w X.K X.mg X.base x k sp) (hr : Room k X.A) (ha : PA X (e :: es) t) (hg : Gl X x := by rfl) (hd : (x == ("__debug__" : Str)) = false := by decide)
    (he : starEach (e :: es) X.env = (false, eval e X.env) :: starEach es X.env := by rfl) (hpl : (backTo pos (starEach es X.env)).any (·.1) = false := by rfl) :
    PE X (.Call (.Name x p) (e :: es) [] pos) (fun σ H Q => t σ H fun vs H1 => sp vs H1 Q E0) := by
  obtain ⟨f, hm, hk, F⟩ := F.ex
  constructor
  intro pins s σ H Q I h
  apply wpAny_Call_Name_kw
  apply ld_glob I hg hm (hd := hd)
  apply PySem.W.callWith_K (h₀ := X.base) I.ok.mod.kin hk (he := he) (hplain := hpl)
  refine thn (ha.run pos pins s σ H _ I h) ?_
  rintro us s1 ⟨vs, H1, I1, rv, q⟩
  exact And.intro I1.kIn (wpAny_call (run_fnR F hr pass0 I1 rv q))
/-- the def at f keeps sp -/
def Ref (P : Program) (w : World) (K : PySem.W.Frag) (mg : Str → Option Value) (base : Heap) (k : Nat) (f : Addr) (sp : Sp) : Prop := PySem.W.keepIn K (.ref f) = true ∧ FnR P w K mg base CX0 k f sp
/-- a call of a local name that holds a def -/
theorem pe_loc (i : Nat) (hr : Room k X.A) (ha : PA X (e :: es) t) (hN : X.N[i]? = some x := by rfl) (hv : Vis X.env.scope x := by first | exact Or.inl rfl | exact Or.inr (Or.inl rfl))
    (hd : (x == ("__debug__" : Str)) = false := by decide) (hcd : (x == ("__classdict__" : Str)) = false := by decide)
    (he : starEach (e :: es) X.env = (false, eval e X.env) :: starEach es X.env := by rfl) (hpl : (backTo pos (starEach es X.env)).any (·.1) = false := by rfl) :
    PE X (.Call (.Name x p) (e :: es) [] pos) (fun σ H Q => ∃ g sq, σ[i]? = some (some (.ref g)) ∧ Ref X.prog X.w X.K X.mg X.base k g sq ∧ t σ H fun vs H1 => sq vs H1 Q E0) := by
  constructor
  rintro pins s σ H Q I ⟨g, sq, hs, ⟨hk, F⟩, h⟩
  apply wpAny_Call_Name_kw
  refine thn ((pe_var (pos := p) hN hv hd hcd).run pins s σ H (fun v H1 => v = .ref g ∧ H1 = H) I ⟨.ref g, hs, rfl, rfl⟩) ?_
  rintro u s1 ⟨v, H1, I1, r1, rfl, rfl⟩
  cases r1
  apply PySem.W.callWith_K (h₀ := X.base) I.ok.mod.kin hk (he := he) (hplain := hpl)
  refine thn (ha.run pos pins s1 σ _ _ I1 h) ?_
  rintro us s2 ⟨vs, H2, I2, rv, q⟩
  exact And.intro I2.kIn (wpAny_call (run_fnR F hr pass0 I2 rv q))

/-! ### a static method, called on its class -/
structure Stm (K : PySem.W.Frag) (C : Addr) (mc : Value) (m : Str) (q g : Addr) : Prop where
  rd : ClX.CRead K C mc
  at_ : PySem.W.findCls K (.ref C) mc m = some (.get (.builtin "staticmethod.__get__") (.ref q) .none (.ref C))
  rc : ∃ rest, PySem.W.recIn K q "staticmethod" = some (.ref g :: rest)
  kp : PySem.W.keepIn K (.ref g) = true
theorem pe_stm {mc : Value} {q g : Addr} {pl : Sem Bool} (c : Stm X.K C mc m q g) (F : FnR X.prog X.w X.K X.mg X.base CX0 k g sp) (hr : Room k X.A) (hg : Gl X x) (hm : X.mg x = some (.ref C)) (ha : PA X (e :: es) t)
    (hd : (x == ("__debug__" : Str)) = false := by decide) (he : starEach (e :: es) X.env = (false, eval e X.env) :: starEach es X.env := by rfl)
    (hpl : (backTo pos (starEach es X.env)).any (·.1) = false := by rfl)
    (ht : eval (.Call (.Attribute (.Name x p) m apos) (e :: es) [] pos) X.env = (do
      let z ← eval (.Name x p) X.env
      standAt apos.atName
      let (f, first) ← holding [z] (getMethod z m pl)
      callWith pos f first (backTo pos (starEach (e :: es) X.env)) (backToKw pos (keywordEach [] X.env))) := by rfl) :
    PE X (.Call (.Attribute (.Name x p) m apos) (e :: es) [] pos) (fun σ H Q => t σ H fun vs H1 => sp vs H1 Q E0) := by
  constructor
  intro pins s σ H Q I h
  apply PySem.W.methodCall_KW (pl := pl) (he := ht)
  refine thn ((pe_glob (pos := p) (v := .ref C) hg hm rfl hd).run pins s σ H (fun v H1 => v = .ref C ∧ H1 = H) I ⟨rfl, rfl⟩) ?_
  rintro u s1 ⟨v, H1, I1, r1, rfl, rfl⟩
  cases r1
  obtain ⟨rest, hp⟩ := c.rc
  apply PySem.W.method_cls I1.kIn c.rd.ga
  apply PySem.W.cls_bind I1.kIn c.rd.rd c.at_
  apply wpAny_call
  apply PySem.W.sm_get (s := { s1 with toks := s1.toks + 1 }) I1.kIn hp
  apply PySem.W.handed_on rfl
  have I2 := I1.tok (s1.toks + 1)
  apply PySem.W.callWith_K (h₀ := X.base) I.ok.mod.kin c.kp (he := he) (hplain := hpl)
  refine thn (ha.run pos pins _ σ _ _ I2 h) ?_
  rintro us s2 ⟨vs, H2, I3, rv, q⟩
  exact And.intro I3.kIn (wpAny_call (run_fnR F hr pass0 I3 rv q))

/-! ### x in o, x not in o, by an own __contains__ -/
structure Has (K : PySem.W.Frag) (C f : Addr) : Prop where
  at_ : PySem.W.findIn K (.ref C) "__contains__" = some (some (.ref f))
  fn : PySem.W.isFn K (.ref f) = true
theorem op_hasnot (c : Has X.K C f) (F : FnR X.prog X.w X.K X.mg X.base CX0 k f sp) (hr : Room k X.A) :
    OpR X (compareOp .NotIn) (fun y z H Q => ∃ a dx fs, z = .ref a ∧ H a = some (.ins C dx fs) ∧ sp [.ref a, y] H (fun v H' => ∃ b, v = .bl b ∧ Q (.bl (!b)) H') E0) := by
  intro pins s σ H y z u w Q I ry rz h
  obtain ⟨a, dx, fs, rfl, hi, h⟩ := h
  cases rz
  obtain ⟨mA, O, _⟩ := ins_get I.hok hi
  obtain ⟨od, J, _⟩ := O.look
  obtain ⟨m, fr⟩ := I.fr
  apply PySem.W.notIn_K fr I.ok.mod.kin J c.at_ c.fn
  refine wpAny_mono (wpAny_call (run_fnR (us := [.ref a, u]) (vs := [.ref a, y]) F hr pass0 I (.cons (rfl : RelV (.ref a) (.ref a)) (.cons ry .nil)) h)) ?_ fun _ _ q => q
  rintro v s' ⟨v', H', I', r', b, rfl, q⟩
  obtain rfl : v = Value.bool b := r'
  cases b
  · exact wpAny_pure ⟨.bl true, H', I', rfl, q⟩
  · exact wpAny_pure ⟨.bl false, H', I', rfl, q⟩

/-! ### o + t, by an own __add__, t a tuple -/
structure Adds (K : PySem.W.Frag) (C f : Addr) (rc : Option Value) : Prop where
  at_ : PySem.W.findIn K (.ref C) "__add__" = some (some (.ref f))
  fn : PySem.W.isFn K (.ref f) = true
  first : PySem.W.selfFirst K C = true
  refl : PySem.W.findIn K (.ref C) "__radd__" = some Option.none
  tup : ∃ fo ro, PySem.W.findIn K (.type "tuple") "__add__" = some fo ∧ PySem.W.findIn K (.type "tuple") "__radd__" = some ro
  sub : PySem.W.subIn K (.type "tuple") (.ref C) = some false
theorem own_plus {prog : Program} {w : World} {A : Around} {E : Value → Shared → Prop} {s : Shared} {K : PySem.W.Frag} {a C f : Addr} {ox : Obj} {od : Option Obj} {b : Value} {rc : Option Value} {Q : Value → Shared → Prop}
    (X : K.In s.heap) (J : PySem.W.InstAt s.heap a ox C od) (hb : PySem.W.Looks (model prog w) s.heap (typeOf b) (.type "tuple")) (c : Adds K C f rc)
    (h : wpAny (model prog w) A (call (.ref f) [.ref a, b]) (PySem.W.CmpBack Q) E s) : wpAny (model prog w) A (binaryOp .Add (.ref a) b) Q E s := by
  obtain ⟨fo, ro, t1, t2⟩ := c.tup
  obtain ⟨cd, more, hcd, hm⟩ := PySem.W.ksp_first c.first
  have one := PySem.W.ksp_try X J c.at_ c.fn h
  obtain ⟨hh, g, d, tt, os⟩ := s
  have l1 : PySem.W.Looks (model prog w) hh (typeOf (.ref a)) (.ref C) := J.type
  have l2 := hb
  have l3 : PySem.W.Looks (model prog w) hh (fillsNumberSlot (.ref C) "add") true := PySem.W.fills_K X hcd hm c.at_
  have l4 : PySem.W.Looks (model prog w) hh (fillsNumberSlot (.type "tuple") "add") ((fo.isSome && !isSeqSlot fo) || (ro.isSome && !isSeqSlot ro)) := PySem.W.ksp_fillsT X t1 t2
  have l5 : PySem.W.Looks (model prog w) hh (isSubtype (.type "tuple") (.ref C)) false := PySem.W.looks_subIn X c.sub
  have l6 : PySem.W.Looks (model prog w) hh (numberSlotInPython (.ref C) "add") true := PySem.W.ksp_inPy X c.at_ c.refl (.inl rfl)
  have l7 : PySem.W.Looks (model prog w) hh (numberSlotInPython (.type "tuple") "add") false := PySem.W.Looks.of_pure rfl
  have l8 : PySem.W.Looks (model prog w) hh (typeLookup (.type "tuple") (dunderR "add")) ro := PySem.W.looks_findIn X t2
  generalize ((fo.isSome && !isSeqSlot fo) || (ro.isSome && !isSeqSlot ro)) = rgt at l4
  have hne : (Value.ref C == Value.type "tuple") = false := by
    cases q : (Value.ref C == Value.type "tuple") with
    | false => rfl
    | true => cases beq_iff_eq.mp q
  simp only [binaryOp, Operator.info]
  apply wpAny_holding
  apply wpAny_bind
  unfold binaryOp1
  apply wpAny_bind
  apply l1.at
  apply wpAny_bind
  apply l2.at
  apply wpAny_bind
  apply l3.at
  simp only [hne, Bool.false_eq_true, if_false]
  cases rgt
  all_goals
    ksp_lk
    refine wpAny_mono one ?_ fun _ _ e => e
    rintro r s' ⟨v, rfl, hq⟩
    ksp_lk
    exact hq
theorem op_plusOwn {rc : Option Value} (c : Adds X.K C f rc) (F : FnR X.prog X.w X.K X.mg X.base CX0 k f sp) (hr : Room k X.A) :
    OpR X (binaryOp .Add) (fun y z H Q => ∃ a dx fs b xs, y = .ref a ∧ z = .ref b ∧ H a = some (.ins C dx fs) ∧ H b = some (.tup xs) ∧ sp [.ref a, .ref b] H (fun v H' => ∃ r, v = .ref r ∧ Q v H') E0) := by
  intro pins s σ H y z u w Q I ry rz h
  obtain ⟨a, dx, fs, b, xs, rfl, rfl, hi, ht, h⟩ := h
  cases ry
  cases rz
  obtain ⟨mA, O, _⟩ := ins_get I.hok hi
  obtain ⟨od, J, _⟩ := O.look
  obtain ⟨its, r, ⟨o, ho, hc, _⟩, _⟩ := I.tuple (SqT.of ht)
  refine own_plus I.kIn J ?_ c ?_
  · intro A' Q' E' s' k' q'
    exact wpAny_typeOf ⟨o, k' _ _ ho, hc⟩ q'
  refine wpAny_mono (wpAny_call (run_fnR (us := [.ref a, .ref b]) (vs := [.ref a, .ref b]) F hr pass0 I (.cons (rfl : RelV (.ref a) (.ref a)) (.cons (rfl : RelV (.ref b) (.ref b)) .nil)) h)) ?_ fun _ _ q => q
  rintro v s' ⟨v', H', I', r', q, rfl, hq⟩
  obtain rfl : v = Value.ref q := r'
  exact ⟨.ref q, H', I', rfl, hq⟩
end
end FD
end
section
set_option maxHeartbeats 2000000
/-! enumerate over a tuple -/
namespace FD
open PySem PySem.Spec PyProof.Rows L2
abbrev tit (l : Addr) : Obj := { cls := .type "tuple_iterator", data := .fields #[.ref l, .int 0 0] }
abbrev eno (it : Addr) : Obj := { cls := .type "enumerate", data := .fields #[.none, .bool false, .ref it, rawInt 0, .none, .none] }
theorem enum_new (l : Addr) (its : Array Value) (n : Nat) (dct : Option Addr) (sl : Array (Option Value)) :
    Meets (Builtin.«enumerate.__new__» ⟨[.type "enumerate", .ref l], []⟩) (fun _ R s =>
      s.heap.get? l = some { cls := .type "tuple", dict := dct, data := .seq its n, slots := sl } ∧
      R (.ok (.ret (.ref (s.heap.push (tit l)).objs.size))) { s with heap := (s.heap.push (tit l)).push (eno s.heap.objs.size) }) :=
  .of_wp fun prog w A R s h => by
    obtain ⟨hp, g, d, tk, os⟩ := s
    obtain ⟨hl, h⟩ := h
    have hsub := sub_enumerate
    have ht : Heap.IsTuple (Shared.heap ⟨hp, g, d, tk, os⟩) l its := ⟨_, hl, rfl, n, rfl⟩
    wp_walk using AutoSeq1.wpAny_loadPart' hl
    refine wpAny_stack_any fun st => wpAny_pure ?_
    split
    · rename_i c _ _ _ _ _
      cases (c == Value.type "enumerate")
      all_goals
        wp_walk using AutoSeq1.wpAny_loadPart' hl, wpAny_pyIter_tuple ht
        exact ⟨_, rfl, h⟩
    · wp_walk using AutoSeq1.wpAny_loadPart' hl, wpAny_pyIter_tuple ht
      exact ⟨_, rfl, h⟩
theorem call_enumT {prog : Program} {w : World} {A : Around} {E : Value → Shared → Prop} {s : Shared} {l : Addr} {its : Array Value} {Q : Value → Shared → Prop} (ht : s.heap.IsTuple l its)
    (h : ∀ h', IsEnum h' (s.heap.objs.size + 1) s.heap.objs.size 0 .none → h'.IsTupleIter s.heap.objs.size l 0 →
      (∀ b o, s.heap.get? b = some o → h'.get? b = some o) → Q (.ref (s.heap.objs.size + 1)) { s with heap := h' }) :
    wpAny (model prog w) A (call (.type "enumerate") [.ref l]) Q E s := by
  obtain ⟨⟨c, dct, dt, sl⟩, hl, hc, n, hd⟩ := ht
  obtain rfl : c = .type "tuple" := hc
  obtain rfl : dt = .seq its n := hd
  refine callType_new F.called_enumerate (by decide) (F.typeCall_enumerate_1 _) (F.newCall_enumerate_1 _) (fun obj => F.args_object_init_2 obj _) F.entry_enumerate_new
    (enum_new l its n dct sl) ⟨hl, ?_⟩
  have hz : (s.heap.push (tit l)).objs.size = s.heap.objs.size + 1 := Heap.size_push ..
  show _ ∧ _
  rw [hz]
  have he : IsEnum ((s.heap.push (tit l)).push (eno s.heap.objs.size)) (s.heap.objs.size + 1) s.heap.objs.size 0 .none := by
    have q := Heap.get?_push_size (s.heap.push (tit l)) (o := eno s.heap.objs.size) rfl
    rw [hz] at q
    exact q
  refine ⟨⟨_, he, rfl⟩, h _ he ⟨_, Heap.get?_push_of_some _ (Heap.get?_push_size _ rfl), rfl, rfl⟩ ?_⟩
  exact fun b o x => Heap.get?_push_of_some _ (Heap.get?_push_of_some _ x)

/-- i, x of the tuple at a, in new pairs -/
def Iet (K : PySem.W.Frag) (a : Addr) : It where
  go := fun i H => ∃ (xs : List V) (x : V), SqT K H a xs ∧ xs[i]? = some x
  yld := fun i H v H' => ∃ T x, v = .ref T ∧ H T = none ∧ H' = upd H T (.tup [.int (i : Nat), x]) ∧ ∀ xs, SqT K H a xs → xs[i]? = some x
  stop := fun i H => ∃ xs : List V, SqT K H a xs ∧ i = xs.length
theorem turn_enumT {P : Program} {w : World} {K : PySem.W.Frag} {elts : List Expr} {kk : Nat} {tpos : Pos} (a e it : Addr) (hai : a ≠ it) (hae : a ≠ e) :
    Turn P w K (.Tuple elts kk tpos) (Iet K a) [e, it] e (fun i h => (∃ old, IsEnum h e it ((i : Nat) : Int) old) ∧ h.IsTupleIter it a i ∧ e ≠ it) where
  mem := by simp
  obj := fun i h st b hb => by
    obtain ⟨⟨old, he⟩, ⟨o, ho, hc, hd⟩, _⟩ := st
    have e' : b = e ∨ b = it := by simpa using hb
    rcases e' with z | z
    · subst z
      exact ⟨_, he, fun v q => nomatch q⟩
    · subst z
      exact ⟨o, ho, fun v q => by rw [hd] at q; cases q⟩
  keep := fun i h h' st k => by
    obtain ⟨⟨old, he⟩, hi, hne⟩ := st
    exact ⟨⟨old, k e (by simp) _ he⟩, hi.at fun o q => k it (by simp) o q, hne⟩
  item := by
    intro X hP hw hK hc i pins s σ H E I hf st hg
    subst hP hw hK
    obtain ⟨⟨old, he⟩, hit, hne⟩ := st
    obtain ⟨xs, x, hq, hx⟩ := hg
    obtain ⟨its, rv, p, hz⟩ := I.tuple hq
    obtain ⟨u, hu, ru⟩ := rv.get hx
    have hel : e < s.heap.objs.size := Heap.lt_size he
    have hil : it < s.heap.objs.size := by
      obtain ⟨_, q, _⟩ := hit
      exact Heap.lt_size q
    have hlt : i < its.toArray.size := by
      rw [List.size_toArray]
      exact (List.getElem?_eq_some_iff.mp hu).1
    have D := Draws.tuple (prog := X.prog) (w := X.w) (A := X.A.in1) (I.ok.hd hc) it a hai its.toArray
    refine wpAny_pyNext_enum_itemD D he ⟨hit, p⟩ hlt hne (by simp [hne, hae.symm]) fun x' h' tk hP ho st' hT hsz hk => ?_
    have ex : x' = u := by
      have q : its.toArray[i]? = some x' := hP
      rw [List.getElem?_toArray, hu] at q
      exact (Option.some.inj q).symm
    subst ex
    refine ⟨_, rfl, wpAny_letOwnedTupleGo_enum (s := { s with heap := h', toks := tk + 1 }) ho fun h'' he' sb => ?_⟩
    have hT2 : h''.get? s.heap.objs.size = some { cls := .type "tuple", data := .seq #[.int i tk, x'] } := (sb.2 _ (Nat.ne_of_gt hel)).trans hT
    have new : ObjOk X.prog X.w (upd H s.heap.objs.size (.tup [.int (i : Nat), x])) h'' s.heap.objs.size (.tup [.int (i : Nat), x]) :=
      ⟨by show 2 ≤ sizeLine; decide, [.int i tk, x'], .cons ⟨_, rfl⟩ (.cons ru .nil), ⟨_, hT2, rfl, _, rfl⟩⟩
    have I1 : Inv X pins σ (upd H s.heap.objs.size (.tup [.int (i : Nat), x])) { s with heap := h'', toks := tk + 1 } :=
      I.turnedNew (ch := [e, it]) (fun b ob hb q => (sb.2 b (fun z => hb (by simp [z]))).trans (hk b ob (fun z => hb (by simp [z])) (fun z => hb (by simp [z])) q)) hf (Nat.le_refl _) new
    refine ⟨.ref s.heap.objs.size, _, I1, rfl, ⟨_, x, rfl, I.hok.fresh (Nat.le_refl _), rfl, fun ys hy => ?_⟩, ⟨⟨x', ?_⟩, st'.1.at fun o q => (sb.2 it (Ne.symm hne)).trans q, hne⟩, fun b hb => ?_⟩
    · rw [I.tuple_inj hy hq]
      exact hx
    · have e1 : ((i + 1 : Nat) : Int) = (i : Int) + 1 := by omega
      rw [e1]
      exact he'
    · have hb' : b < s.heap.objs.size := by
        have e' : b = e ∨ b = it := by simpa using hb
        rcases e' with z | z
        · exact z ▸ hel
        · exact z ▸ hil
      rw [upd_ne (Nat.ne_of_lt hb')]
      exact (hf b hb).1
  done := by
    intro X hP hw hK hc i pins s σ H E I hf st hg
    subst hP hw hK
    obtain ⟨⟨old, he⟩, hit, hne⟩ := st
    obtain ⟨xs, hq, hx⟩ := hg
    obtain ⟨its, rv, p, hz⟩ := I.tuple hq
    obtain ⟨f0, f1, f2, f3, f4, f5⟩ := hf it (by simp)
    have hl : i = its.toArray.size := by rw [List.size_toArray, ← rv.length, hx]
    subst hl
    have D := Draws.tuple (prog := X.prog) (w := X.w) (A := X.A.in1) (I.ok.hd hc) it a hai its.toArray
    exact wpAny_pyNext_enum_endD D he ⟨hit, p⟩ fun h' eb => ⟨rfl, I.turned (t' := s.toks) (fun b o hb q => eb b o hb q) f0 f1 f3 f4 f5⟩
  self := fun A i s Q E st h => by
    obtain ⟨⟨_, he⟩, _⟩ := st
    exact wpAny_pyIter_enum he h
def iEnumT (K : PySem.W.Frag) (ta : TA) : TI := fun σ H R => ta σ H fun vs H1 => ∃ a xs, vs = [.ref a] ∧ SqT K H1 a xs ∧ R (Iet K a) H1
theorem pi_enumT {X : Cx} {e : Expr} {ta : TA} {p pos tpos : Pos} {elts : List Expr} {kk : Nat} (hg : Gl X "enumerate") (hm : X.mg "enumerate" = none) (ha : PA X [e] ta) (hs : starEach [e] X.env = [(false, eval e X.env)] := by rfl) :
    PI X (.Tuple elts kk tpos) (.Call (.Name "enumerate" p) [e] [] pos) (iEnumT X.K ta) := by
  constructor
  intro pins s σ H R I h
  refine Call_ (ld_blt I hg hm boot_enumerate (PyProof.Rows.callWith_type1 (thn (ha.run pos pins s σ H _ I h) fun us s1 ⟨vs, H1, I1, r1, q1⟩ => ?_) hs rfl))
  obtain ⟨a, xs, ex, hq, q⟩ := q1
  subst ex
  cases r1 with
  | cons r rr =>
    cases rr
    cases r
    obtain ⟨its, rv, pt, hz⟩ := I1.tuple hq
    have hal : a < s1.heap.objs.size := by
      obtain ⟨_, q, _⟩ := pt
      exact Heap.lt_size q
    refine call_enumT pt fun h' he hit hk => wpAny_pyIter_enum he ?_
    have I2 : Inv X pins σ H1 { s1 with heap := h' } := I1.kept (t' := s1.toks) hk
    refine ⟨s1.heap.objs.size + 1, [s1.heap.objs.size + 1, s1.heap.objs.size], _, _, H1, rfl, I2, turn_enumT a (s1.heap.objs.size + 1) s1.heap.objs.size (Nat.ne_of_lt hal) (Nat.ne_of_lt (Nat.lt_succ_of_lt hal)),
      ⟨⟨.none, he⟩, hit, Nat.succ_ne_self _⟩, fun b hb => ?_, q⟩
    have hle : s1.heap.objs.size ≤ b := by
      have e' : b = s1.heap.objs.size + 1 ∨ b = s1.heap.objs.size := by simpa using hb
      rcases e' with z | z
      · rw [z]; exact Nat.le_add_right _ _
      · rw [z]; exact Nat.le_refl _
    exact I1.fpOk hle (I1.hok.fresh hle)
theorem walk_enumT {K : PySem.W.Frag} {a : Addr} {xs : List V} : Walk (Iet K a) xs.length (fun H => SqT K H a xs) (YPair (fun i => some (.int (i : Nat))) (fun i => xs[i]?)) where
  goes := fun i H hi g => ⟨xs, xs[i], g, by simp [hi]⟩
  stops := fun H g => ⟨xs, g, rfl⟩
  yields := fun i H v H' hi g ⟨T, x, h1, h2, h3, h4⟩ => ⟨T, _, x, h1, h2, h3, rfl, h4 xs g⟩
end FD
end
section
set_option maxHeartbeats 2000000
/-! t[::-1] of a pair; a call by keywords alone -/
namespace FD
open PySem PySem.Spec PyProof.Rows L2
section
variable {prog : Program} {w : World} {A : Around} {E : Value → Shared → Prop} {s : Shared}
theorem item_back {t sl : Addr} {u v : Value} {tk : Tok} {Q : Value → Shared → Prop} (ht : IsTup s.heap t #[u, v]) (hs : s.heap.IsSliceOf sl .none .none (.int (-1) tk))
    (h : Q (.ref s.heap.objs.size) { s with heap := s.heap.push { cls := .type "tuple", data := .seq #[v, u] } }) : wpAny (model prog w) A (getItem (.ref t) (.ref sl)) Q E s := by
  obtain ⟨os, hos, hcs, hds⟩ := id hs
  have hTs : s.TypeIs (.ref sl) "slice" := ⟨os, hos, hcs⟩
  have sz : sizeOk (.seq #[v, u]) := by show 2 ≤ sizeLine; decide
  unfold getItem
  try with_reducible apply wpAny_holding
  apply wpAny_bind
  apply wpAny_sequenceKey ht.typeIs (by decide)
  apply wpAny_bind
  refine wpAny_callSpecial?_slot (name := Str.ofString "__getitem__") ht.typeIs PyProof.Rows.slot_tuple_getitem
    (wpAny_call_entry PyProof.Rows.slot_tuple_getitem ht.typeIs entry_tuple_getitem ?_ (args_tuple_getitem _ _))
  show wpAny _ _ (Builtin.Tuple.tupleItemsOf (.ref t) >>= _) _ _ s
  apply wpAny_bind
  apply tupleItemsOf_ ht
  apply wpAny_bind
  apply wpAny_typeOf hTs
  rw [if_pos (by decide)]
  apply wpAny_bind
  unfold Builtin.Slice.sliceApplied Builtin.Slice.sliceFields
  refine wpAny_bind (wpAny_bind (wpAny_field hos hds (x := .none) rfl (wpAny_bind (wpAny_field hos hds (x := .none) rfl (wpAny_bind (wpAny_field hos hds (x := .int (-1) tk) rfl (wpAny_pure ?_)))))))
  apply wpAny_bind
  apply slicePart_int
  show wpAny _ _ (if ((-1 : Int) == 0) = true then _ else _) _ _ s
  rw [if_neg (by decide)]
  apply wpAny_bind
  apply slicePart_none
  apply wpAny_bind
  apply slicePart_none
  apply wpAny_bind
  apply wpAny_pure
  have e : Builtin.Slice.sliceAdjust Option.none Option.none (-1) (((#[u, v] : Array Value).size : Nat) : Int) = (1, -1) := by rfl
  show wpAny _ _ (match Builtin.Slice.sliceAdjust Option.none Option.none (-1) (((#[u, v] : Array Value).size : Nat) : Int) with | (lo, hi) => pure (lo, (-1 : Int), Builtin.Slice.slicePlaces lo hi (-1))) _ _ s
  rw [e]
  show wpAny _ _ (pure ((1 : Int), (-1 : Int), Builtin.Slice.slicePlaces 1 (-1) (-1))) _ _ s
  apply wpAny_pure
  have e2 : Builtin.Slice.slicePlaces 1 (-1) (-1) = 2 := by rfl
  rw [e2]
  show wpAny _ _ (if ((1 : Int) == 0 && (-1 : Int) == 1 && (2 : Nat) == 2) = true then _ else _) _ _ s
  rw [if_neg (by decide)]
  have e3 : ((List.range 2).filterMap fun (m : Nat) => (#[u, v] : Array Value)[((1 : Int) + (m : Int) * (-1)).toNat]?).toArray = #[v, u] := by rfl
  rw [e3]
  first
    | exact wpAny_bind (m := Builtin.Tuple.tupleExact _) (wpAny_newObj_type (wpAny_pure ⟨_, rfl, wpAny_pure h⟩) sz)
    | exact wpAny_bind (m := Builtin.Tuple.tupleExact _) (wpAny_newObj_type (wpAny_bind (wpAny_pure (wpAny_pure ⟨_, rfl, wpAny_pure h⟩))) sz)
    | exact wpAny_bind (wpAny_bind (m := Builtin.Tuple.tupleExact _) (wpAny_newObj_type (wpAny_pure (wpAny_pure ⟨_, rfl, wpAny_pure h⟩)) sz))
    | exact wpAny_bind (wpAny_bind (m := Builtin.Tuple.tupleExact _) (wpAny_newObj_type (wpAny_pure ⟨_, rfl, wpAny_pure h⟩) sz))
end
section
variable {X : Cx}
/-- x[::-1], x a list or a pair -/
def tBack (K : PySem.W.Frag) (te : TE) : TE := fun σ H Q => te σ H fun x H1 => ∃ a, x = .ref a ∧
  ((∃ xs, SqL K H1 a xs ∧ ∀ p, H1 p = none → Q (.ref p) (upd H1 p (.lst xs.reverse))) ∨ (∃ y z, SqT K H1 a [y, z] ∧ ∀ p, H1 p = none → Q (.ref p) (upd H1 p (.tup [z, y]))))
theorem pe_back {e : Expr} {te : TE} {k : Nat} {p1 p2 p3 pos : Pos} (he : PE X e te) : PE X (.Subscript e (.Slice none none (some (.UnaryOp .USub (.Constant (.int 1) k p1) p2)) p3) pos) (tBack X.K te) := by
  constructor
  intro pins s σ H Q I h
  apply Subscript_
  refine thn (he.run pins s σ H _ I h) ?_
  rintro v s1 ⟨x, H1, I1, r1, a, rfl, hx⟩
  cases r1
  have hst : PO X (some (.UnaryOp .USub (.Constant (.int 1) k p1) p2)) (tPart (tUn (rU fun i => .int (-i)) (tC (.int 1)))) := po_some (pe_un un_neg pe_int)
  refine wpAny_Slice (thn (po_none.run pins s1 σ H1 (fun o H2 => o = none ∧ H2 = H1) I1 ⟨rfl, rfl⟩) ?_)
  rintro vl s2 ⟨l, H2, I2, pl, rfl, rfl⟩
  refine thn (po_none.run pins s2 σ H2 (fun o H3 => o = none ∧ H3 = H2) I2 ⟨rfl, rfl⟩) ?_
  rintro vu s3 ⟨u, H3, I3, pu, rfl, rfl⟩
  refine thn (hst.run pins s3 σ H3 (fun o H4 => o = some (-1) ∧ H4 = H3) I3 ⟨1, rfl, -1, rfl, rfl, rfl⟩) ?_
  rintro vs s4 ⟨o, H4, I4, ps, rfl, rfl⟩
  have I5 : Inv X pins σ H4 { s4 with heap := s4.heap.push { cls := .type "slice", data := .fields #[vl, vu, vs] } } := I4.kept (t' := s4.toks) fun b ob q => Heap.get?_push_of_some _ q
  rcases hx with ⟨xs, hx, q⟩ | ⟨y, z, hx, q⟩
  · obtain ⟨its, r, ht, hz⟩ := I5.list hx
    have hlen := r.length
    show wpAny (model X.prog X.w) X.A (subscriptTail e (.Slice none none (some (.UnaryOp .USub (.Constant (.int 1) k p1) p2)) p3) (.ref a) (.ref s4.heap.objs.size)) (EP X pins σ Q) X.xe _
    refine tail_any (ops := [.ref a, .ref s4.heap.objs.size]) ht.isList.typeIs (PySem.slot_list_getitem.lookup) ?_ (by with_unfolding_all rfl)
    refine wpAny_getItem_list_slice ht.isList (Heap.IsSliceOf.new _ vl vu vs) pl pu ps (by decide) ?_ (by rw [List.size_toArray]; omega)
    rw [PySem.W.krv_pick]
    refine ⟨.ref _, _, I5.laid (t' := s4.toks) (o := .lst xs.reverse) (fun b ob q => Heap.get?_push_of_some _ q) (Nat.le_refl _) ?_, rfl, q _ (I5.hok.fresh (Nat.le_refl _))⟩
    exact ⟨by rw [List.length_reverse]; exact hz, _, 0, r.reverse, Heap.get?_push_size _ rfl⟩
  · obtain ⟨its, r, ht, hz⟩ := I5.tuple hx
    cases pl
    cases pu
    cases ps
    obtain ⟨u1, u2, rfl, ru, rv⟩ := Vals.two r
    show wpAny (model X.prog X.w) X.A (subscriptTail e (.Slice none none (some (.UnaryOp .USub (.Constant (.int 1) k p1) p2)) p3) (.ref a) (.ref s4.heap.objs.size)) (EP X pins σ Q) X.xe _
    refine tail_any (ops := [.ref a, .ref s4.heap.objs.size]) ht.typeIs (PyProof.Rows.slot_tuple_getitem.lookup) ?_ (by with_unfolding_all rfl)
    refine item_back ht (Heap.IsSliceOf.new _ _ _ _) ?_
    refine ⟨.ref _, _, I5.laid (t' := s4.toks) (o := .tup [z, y]) (fun b ob q => Heap.get?_push_of_some _ q) (Nat.le_refl _) ?_, rfl, q _ (I5.hok.fresh (Nat.le_refl _))⟩
    exact ⟨by show 2 ≤ sizeLine; decide, [u2, u1], .cons rv (.cons ru .nil), ⟨_, Heap.get?_push_size _ rfl, rfl, _, rfl⟩⟩
/-- f(k = v, ..), keywords alone -/
theorem pe_kw0 {k : Nat} {f : Addr} {fd : FuncData} {ps ks : List Str} {sp : Sp} {x : Str} {p pos : Pos} {kws : List Keyword} {tk : TA} {g : List Value → List Value → List Value} {gV : List V → List V → List V}
    (F : FnOk X.prog X.w X.K X.mg X.base CX0 k f fd ps sp) (hr : Room k X.A) (hg : Gl X x) (hm : X.mg x = some (.ref f)) (hk : PySem.W.keepIn X.K (.ref f) = true) (hb : KBinds X.K fd ps ks g gV) (hkw : PK X kws tk)
    (hall : (backToKw pos (keywordEach kws X.env)).all (·.1.isSome) = true := by rfl) (hks : (backToKw pos (keywordEach kws X.env)).filterMap (·.1) = ks := by rfl)
    (hdb : (x == ("__debug__" : Str)) = false := by decide)
    (hpl : ((backTo pos (starEach [] X.env)).any (·.1) || (backToKw pos (keywordEach kws X.env)).any (·.1.isNone)) = false := by rfl) :
    PE X (.Call (.Name x p) [] kws pos) (fun σ H Q => tk σ H fun zs H1 => sp (gV [] zs) H1 Q E0) := by
  constructor
  intro pins s σ H Q I h
  apply wpAny_Call_Name_kw
  apply ld_glob I hg hm (hd := hdb)
  apply PySem.W.callWith_KW0 (h₀ := X.base) I.ok.mod.kin hk hall (hplain := hpl)
  refine thn (hkw.run pos pins s σ H _ I h) ?_
  rintro ws s2 ⟨zs, H2, I2, rz, q2⟩
  refine ⟨I2.kIn, ?_⟩
  rw [hks]
  exact run_fnk F hr hb pass0 I2 .nil rz q2
end
end FD
end
section
set_option maxHeartbeats 4000000
/-! sets of whole numbers and texts made from a list or a tuple: set(xs), len of it, sorted of it -/
namespace FD
open PySem PySem.Spec PyProof.Rows L2

def keyE (e : Int × Value) : Key := match e.2 with
  | .int k _ => .inl k
  | .str x _ => .inr x
  | _ => .inl 0
def GoodK (w : World) (e : Int × Value) : Prop := keyIs (keyE e) e.2 = true ∧ e.1 = keyH w (keyE e)
theorem keyE_of {k : Key} {h : Int} {v : Value} (q : keyIs k v = true) : keyE (h, v) = k := by
  rcases keyIs_shape q with ⟨i, t, rfl, rfl⟩ | ⟨x, t, rfl, rfl⟩ <;> rfl
theorem scan_of {k : Key} {v : Value} (q : keyIs k v = true) : v.scannable = true := by
  rcases keyIs_shape q with ⟨i, t, rfl, rfl⟩ | ⟨x, t, rfl, rfl⟩ <;> rfl
/-- the set at a: S its members, n their number; its table can be walked -/
def SetM (w : World) (h : Heap) (a : Addr) (S : Key → Bool) (n : Nat) : Prop :=
  ∃ o es ep t, h.get? a = some o ∧ o.ExactSet ∧ o.data = .set es ep t ∧ (∀ e ∈ es.toList, GoodK w e) ∧ (es.toList.map keyE).Nodup ∧
    (∀ k, S k = true ↔ k ∈ es.toList.map keyE) ∧ es.size < scanBound ∧ t.fits es.size = true ∧ es.size = n ∧ Ris t.place.toList ∧ (w.params.followText "set-order" = true ∨ t.led = true)
section
variable {P : Program} {w : World} {h h' : Heap} {a : Addr} {S : Key → Bool} {n : Nat}
theorem SetM.to (R : SetM w h a S n) (k : ∀ o, h.get? a = some o → h'.get? a = some o) : SetM w h' a S n := by
  obtain ⟨o, es, ep, t, ho, r⟩ := R
  exact ⟨o, es, ep, t, k o ho, r⟩
theorem SetM.like {S' : Key → Bool} (R : SetM w h a S n) (e : ∀ k, S' k = S k) : SetM w h a S' n := (funext e : S' = S) ▸ R
theorem goodK_elems {l : List (Int × Value)} (g : ∀ e ∈ l, GoodK w e) : ElemsOf (mixKind P w) l := fun e he => by
  obtain ⟨q1, q2⟩ := g e he
  exact ⟨⟨keyE e, q1, q2⟩, scan_of q1⟩
theorem goodK_is {e : Int × Value} (g : GoodK w e) (k : Key) : (mixKind P w).is k e.2 = true ↔ keyE e = k :=
  ⟨fun q => keyE_of (h := e.1) q, fun q => q ▸ g.1⟩
theorem goodK_mem {l : List (Int × Value)} (g : ∀ e ∈ l, GoodK w e) (k : Key) : k ∈ l.map keyE ↔ ∃ e ∈ l, (mixKind P w).is k e.2 = true := by
  rw [List.mem_map]
  exact ⟨fun ⟨e, he, q⟩ => ⟨e, he, (goodK_is (g e he) k).2 q⟩, fun ⟨e, he, q⟩ => ⟨e, he, (goodK_is (g e he) k).1 q⟩⟩
end

section
variable {P : Program} {w : World} {A : Around} {E : Value → Shared → Prop} {s : Shared} {a : Addr} {S : Key → Bool} {n : Nat}
/-- the end of an addition: the new table is stored, relaid if it is too full -/
theorem addM_end {g : Bool → Sem Unit} (hg : ∀ (b : Bool) (s₁ : Shared) (Q' : Unit → Shared → Prop), Q' () s₁ → wpAny (model P w) A (g b) Q' E s₁)
    {o : Obj} {es : Array (Int × Value)} {ep : Nat} {t : SetTable} (ho : s.heap.get? a = some o) (hex : o.ExactSet) (hd : o.data = .set es ep t)
    {es1 : Array (Int × Value)} {t2 : SetTable} {S' : Key → Bool} (g1 : ∀ e ∈ es1.toList, GoodK w e) (nd1 : (es1.toList.map keyE).Nodup) (m1 : ∀ k, S' k = true ↔ k ∈ es1.toList.map keyE)
    (hb1 : es1.size < scanBound) (hf2 : t2.fits es1.size = true) (hr : Ris t2.place.toList) (hl : w.params.followText "set-order" = true ∨ t2.led = true) {wd : Bool} {R : Option Bool → Shared → Prop}
    (hR : ∀ h', Heap.SameBut a s.heap h' → SetM w h' a S' es1.size → R (some true) { s with heap := h' }) :
    wpAny (model P w) A (do
        storeSet a es1 t2
        if (!wd && t2.tooFull) = true then do
            g (relayAll t2 es1 (SetTable.grown es1.size)).2.2
            storeSet a (relayAll t2 es1 (SetTable.grown es1.size)).1 (relayAll t2 es1 (SetTable.grown es1.size)).2.1
            pure (some true)
          else pure (some true)) R E s := by
  apply wpAny_bind
  refine wpAny_storeSet_of ho hd ?_ (fits_of_scanBound hb1)
  have ho1 := store_at (es' := es1) (t' := t2) ho hd
  have sb1 := Heap.SameBut.update s.heap a (Obj.putSet es1 t2)
  split
  · have pm := relayAll_perm t2 es1 (SetTable.grown es1.size)
    have f3 := relayAll_fits t2 es1 (SetTable.grown es1.size)
    have r3 := relayAll_ris t2 es1 (SetTable.grown es1.size)
    have l3 := relayAll_led t2 es1 (SetTable.grown es1.size)
    generalize relayAll t2 es1 (SetTable.grown es1.size) = Z at pm f3 r3 l3 ⊢
    obtain ⟨es2, t3, gave⟩ := Z
    dsimp only at pm f3 r3 l3 ⊢
    have hsz : es2.size = es1.size := by rw [← Array.length_toList, pm.length_eq, Array.length_toList]
    have hb2 : es2.size < scanBound := hsz ▸ hb1
    apply wpAny_bind
    apply hg
    apply wpAny_bind
    refine wpAny_storeSet_of ho1 rfl ?_ (fits_of_scanBound hb2)
    have ho2 := store_at (es' := es2) (t' := t3) ho1 rfl
    apply wpAny_pure
    refine hR _ (sb1.trans (Heap.SameBut.update _ a _)) ⟨_, es2, _, t3, ho2, hex, rfl, fun e he => g1 e (pm.mem_iff.mp he), ?_, ?_, hb2, f3, hsz, r3, ?_⟩
    · exact (pm.map keyE).nodup_iff.mpr nd1
    · exact fun k => (m1 k).trans (pm.map keyE).mem_iff.symm
    · exact hl.imp id fun z => l3 ▸ z
  · exact wpAny_pure (hR _ sb1 ⟨_, es1, _, t2, ho1, hex, rfl, g1, nd1, m1, hb1, hf2, rfl, hr, hl⟩)
theorem addM {k : Key} {v : Value} {Q : Bool → Shared → Prop} (hk : keyIs k v = true) (R : SetM w s.heap a S n) (room : n + 1 < scanBound)
    (hQ : ∀ h', Heap.SameBut a s.heap h' → SetM w h' a (fun j => S j || decide (j = k)) (if S k = true then n else n + 1) → Q (!S k) { s with heap := h' }) :
    wpAny (model P w) A (setAddHashed a v (keyH w k)) Q E s := by
  obtain ⟨o, es, ep, t, ho, hex, hd, g, nd, hm, hb, hf, hn, hr, hl⟩ := R
  have hkey : (mixKind P w).is k v = true := hk
  have hsc := scan_of hk
  have hel : ElemsOf (mixKind P w) es.toList := goodK_elems g
  unfold setAddHashed setAddHashedIn
  apply wpAny_holding
  apply wpAny_bind
  apply wpAny_setState_of ho hd hf
  dsimp only
  rw [byScan_of hsc hb hel]
  simp only [↓reduceIte]
  unfold setAddByScan
  apply wpAny_bind
  apply wpAny_bind
  apply wpAny_rule
  apply wpAny_bind
  apply wpAny_setScan_of hkey ho hd hf hel
  cases hfi : List.findIdx? (fun e => (mixKind P w).is k e.2) es.toList with
  | some j =>
    dsimp only
    obtain ⟨hj, pj, _⟩ := List.findIdx?_eq_some_iff_getElem.mp hfi
    have hSk : S k = true := (hm k).2 ((goodK_mem (P := P) (w := w) g k).2 ⟨es.toList[j], List.getElem_mem hj, pj⟩)
    apply wpAny_pure
    apply wpAny_pure
    have q := hQ s.heap (Heap.SameBut.refl a s.heap) ⟨o, es, ep, t, ho, hex, hd, g, nd, fun i => by
      rw [Bool.or_eq_true, decide_eq_true_eq, ← hm i]
      exact ⟨fun z => z.elim id (fun e => e ▸ hSk), .inl⟩, hb, hf, by rw [if_pos hSk]; exact hn, hr, hl⟩
    rw [hSk] at q
    exact q
  | none =>
    dsimp only
    have hnk : k ∉ es.toList.map keyE := fun z => by
      obtain ⟨e, he, q⟩ := (goodK_mem (P := P) (w := w) g k).1 z
      have c := List.findIdx?_eq_none_iff.mp hfi e he
      rw [q] at c
      cases c
    have hSk : S k = false := by
      cases q : S k with
      | false => rfl
      | true => exact absurd ((hm k).1 q) hnk
    have gw : ∀ (b : Bool) {s₁ : Shared} {Q' : Unit → Shared → Prop}, Q' () s₁ → wpAny (model P w) A (match b with | true => rule "set.scan.the-table-gave-way" | false => pure ()) Q' E s₁ := by
      intro b s₁ Q' q
      cases b
      · exact wpAny_pure q
      · exact wpAny_rule q
    have pm := layNew_perm t es (keyH w k) v
    have f1 := layNew_fits t es (keyH w k) v
    have r1 := layNew_ris t es (keyH w k) v hr
    have l1 := layNew_led t es (keyH w k) v
    generalize layNew t es (keyH w k) v = Z at pm f1 r1 l1 ⊢
    obtain ⟨es1, t1, wd, gave⟩ := Z
    dsimp only at pm f1 r1 l1 ⊢
    rw [Array.toList_push] at pm
    have pc : es1.toList.Perm ((keyH w k, v) :: es.toList) := pm.trans (List.perm_append_singleton _ _)
    have pk : (es1.toList.map keyE).Perm (k :: es.toList.map keyE) := by
      have q := pc.map keyE
      rw [List.map_cons, keyE_of hk] at q
      exact q
    have g1 : ∀ e ∈ es1.toList, GoodK w e := fun e he => by
      rcases List.mem_cons.mp (pc.mem_iff.mp he) with z | z
      · rw [z]
        refine ⟨?_, ?_⟩
        · rw [keyE_of hk]; exact hk
        · rw [keyE_of hk]
      · exact g e z
    have nd1 : (es1.toList.map keyE).Nodup := pk.nodup_iff.mpr (List.nodup_cons.mpr ⟨hnk, nd⟩)
    have m1 : ∀ i, (S i || decide (i = k)) = true ↔ i ∈ es1.toList.map keyE := fun i => by
      rw [Bool.or_eq_true, decide_eq_true_eq, hm i, pk.mem_iff, List.mem_cons]
      exact Or.comm
    have hsz : es1.size = n + 1 := by rw [← Array.length_toList, pc.length_eq, List.length_cons, Array.length_toList, hn]
    have hb1 : es1.size < scanBound := hsz ▸ room
    have led1 : w.params.followText "set-order" = true ∨ t1.led = true := hl.imp id fun z => l1 ▸ z
    have fin : ∀ h', Heap.SameBut a s.heap h' → SetM w h' a (fun j => S j || decide (j = k)) es1.size → Q true { s with heap := h' } := fun h' sb r => by
      have q := hQ h' sb
      rw [hSk] at q
      rw [hsz] at r
      exact q r
    apply wpAny_bind
    apply gw
    split
    · apply wpAny_bind
      rw [hashByValue_scannable 8 hsc]
      apply wpAny_pure
      refine addM_end ?_ ho hex hd g1 nd1 m1 hb1 ?_ ?_ ?_ ?_
      · intro b s₁ Q' q
        cases b <;> first | exact wpAny_pure q | exact wpAny_rule q
      · first | (split <;> first | exact f1 | exact SetTable.fits_plain_off f1) | exact f1
      · first | (split <;> exact r1) | exact r1
      · first | (split <;> exact led1) | exact led1
      · intro h' sb r
        dsimp only
        exact wpAny_pure (fin h' sb r)
    · apply wpAny_bind
      apply wpAny_pure
      simp only [↓reduceIte]
      refine addM_end ?_ ho hex hd g1 nd1 m1 hb1 f1 r1 led1 ?_
      · intro b s₁ Q' q
        cases b <;> first | exact wpAny_pure q | exact wpAny_rule q
      · intro h' sb r
        dsimp only
        exact wpAny_pure (fin h' sb r)
end
end FD
end
section
set_option maxHeartbeats 4000000
namespace FD
open PySem PySem.Spec PyProof.Rows L2
section
variable {P : Program} {w : World} {A : Around} {E : Value → Shared → Prop} {s : Shared} {a : Addr}
/-- what a walk over a standing thing leaves as it was -/
structure Kept (s s' : Shared) : Prop where
  heap : ∀ b o, s.heap.get? b = some o → s'.heap.get? b = some o
  gens : s'.gens = s.gens
  os : s'.os = s.os
/-- sorted(x), from the items of x and a sort of lists of such items -/
theorem sorted_from {Items : List Value → Prop} {Good : List Value → Array Value → Prop} {Q : Value → Shared → Prop}
    (hc : ∀ (Q' : List Value → Shared → Prop) (E' : Value → Shared → Prop), (∀ s' vs, Kept s s' → Items vs → Q' vs s') → wpAny (model P w) A.in1 (collect (.ref a)) Q' E' s)
    (hl : ∀ vs, Items vs → vs.length < 64)
    (hs : ∀ (A' : Around) (E' : Value → Shared → Prop) (s1 : Shared) (vs : List Value) (L : Addr) (R : PySem.Fin → Shared → Prop), Items vs → s1.heap.get? L = some (seqObj "list" vs.toArray 0) →
      (∀ out, Good vs out → R (.done (.ret .none)) { s1 with heap := sortedHeap s1.heap L vs out }) → wpAny (model P w) A' (Builtin.«list.sort» ⟨[.ref L], []⟩) R E' s1)
    (hQ : ∀ s' p vs (out : Array Value) (c : Nat), Kept s s' → s.heap.get? p = none → Items vs → Good vs out → s'.heap.get? p = some (seqObj "list" out c) → Q (.ref p) s') :
    wpAny (model P w) A (call (.builtin "sorted") [.ref a]) Q E s := by
  refine Calls.call_function_entry kind_sorted plain_sorted entry_sorted (args_sorted1 _) ?_
  unfold Builtin.«sorted»
  refine wpAny_bind (m := checkCount "sorted" 1 1 _) (wpAny_pure ?_)
  apply wpAny_bind
  refine hc _ _ fun s1 vs kp hv => ?_
  have hvl := hl vs hv
  apply wpAny_bind
  refine wpAny_newList ?_ (by rw [sizeLine_eq]; omega)
  have hoL : (s1.heap.push (seqObj "list" vs.toArray 0)).get? s1.heap.objs.size = some (seqObj "list" vs.toArray 0) := Heap.get?_push_size _ rfl
  apply wpAny_bind
  apply wpAny_holding
  refine wpAny_call_entry slot_list_sort ⟨_, hoL, rfl⟩ entry_list_sort (hs _ _ _ vs _ _ hv hoL fun out ho => ⟨_, rfl, ?_⟩) (args_list_sort _)
  obtain ⟨c, hc'⟩ := sortedHeap_at (vs := vs) (out := out) hoL
  apply wpAny_pure
  have old : ∀ b u, s1.heap.get? b = some u → (sortedHeap (s1.heap.push (seqObj "list" vs.toArray 0)) s1.heap.objs.size vs out).get? b = some u := fun b u e => by
    have hlt := Heap.lt_size e
    rw [sortedHeap_old (Nat.ne_of_lt hlt) (by rw [size_push']; exact Nat.lt_succ_of_lt hlt)]
    exact Heap.get?_push_of_some _ e
  refine ⟨_, rfl, hQ _ s1.heap.objs.size vs out c ⟨fun b u e => old b u (kp.heap b u e), kp.gens, kp.os⟩ ?_ hv ho hc'⟩
  cases e : s.heap.get? s1.heap.objs.size with
  | none => rfl
  | some u => exact absurd (Heap.lt_size (kp.heap _ _ e)) (Nat.lt_irrefl _)
theorem sort_strs_of {Q : PySem.Fin → Shared → Prop} {vs : List Value} {ss : List Str} {L : Addr} (hS : StrsAre vs ss) (hl : vs.length < 64) (ho : s.heap.get? L = some (seqObj "list" vs.toArray 0))
    (h : ∀ (out : Array Value) (ss' : List Str), StrsAre out.toList ss' → ss'.Perm ss → sortedS ss' = true → Q (.done (.ret .none)) { s with heap := sortedHeap s.heap L vs out }) :
    wpAny (model P w) A (Builtin.«list.sort» ⟨[.ref L], []⟩) Q E s := by
  refine list_sort_treeK strKind_oneLt ho hS.keysOf (fun v₁ v₂ rest e => keyKind_strs (by rw [← e]; exact hS)) hl fun st' hp hq => ?_
  obtain ⟨ss', h1, h2, h3⟩ := sorted_out_str hS hp hq
  exact h _ ss' h1 h2 h3
end
theorem ObjOk.here {P : Program} {w : World} {H : Hp} {h : Heap} {a : Addr} {o : HO} (x : ObjOk P w H h a o) : ∃ u, h.get? a = some u := by
  cases o with
  | lst xs => obtain ⟨_, _, _, _, e⟩ := x; exact ⟨_, e⟩
  | tup xs => obtain ⟨_, _, _, o, e, _⟩ := x; exact ⟨_, e⟩
  | dK kvs => obtain ⟨_, _, _, _, o, _, _, e, _⟩ := x; exact ⟨_, e⟩
  | dT kvs => obtain ⟨_, _, _, _, o, _, _, e, _⟩ := x; exact ⟨_, e⟩
  | set S n => obtain ⟨o, _, _, _, e, _⟩ := x; exact ⟨_, e⟩
  | ins C dx fs => obtain ⟨_, _, _, e, _⟩ := x; exact ⟨_, e⟩
  | own y => exact x
  | xd fs => obtain ⟨_, ⟨_, _, _, e, _⟩, _⟩ := x; exact ⟨_, e⟩
  | rng lo hi => obtain ⟨_, _, _, e⟩ := x; exact ⟨_, e⟩
  | frz ob u => obtain ⟨e, _⟩ := x; exact ⟨_, e⟩
  | tbl ps => exact ⟨_, (show h.get? a = some _ from x)⟩
  | met f y => exact ⟨_, (show h.get? a = some _ from x)⟩
  | ext φ => obtain ⟨_, e, _⟩ := x; exact e
theorem free_of {P : Program} {w : World} {H : Hp} {h : Heap} {a : Addr} (x : HOk P w H h) (hn : h.get? a = none) : H a = none := by
  cases e : H a with
  | none => rfl
  | some o =>
    obtain ⟨u, q⟩ := ObjOk.here (x a o e)
    rw [hn] at q
    cases q
theorem laid_free {P : Program} {w : World} {H : Hp} {h h' : Heap} {a : Addr} {o : HO} (x : HOk P w H h) (k : ∀ b u, h.get? b = some u → h'.get? b = some u) (hn : h.get? a = none) (new : ObjOk P w (upd H a o) h' a o) : HOk P w (upd H a o) h' := fun b u e => by
  have hf := free_of x hn
  by_cases hb : b = a
  · subst hb
    rw [upd_same] at e
    cases e
    exact new
  · rw [upd_ne hb] at e
    exact (x b u e).stay (fun c v _ q => k c v q) (fun c q => by rw [upd_ne (ne_of_none q hf)]; exact q) fun c xs q => by rw [upd_ne (ne_of_none q hf)]; exact q
theorem un_free {fs ex : List Addr} {H : Hp} {h h' : Heap} {a : Addr} {o : HO} (k : ∀ b u, h.get? b = some u → h'.get? b = some u) (hn : h.get? a = none) (hf : H a = none) : Un fs ex H (upd H a o) h h' where
  keep := fun b u q _ _ _ => k b u q
  slot := fun b u q _ _ _ => ⟨u.slots, k b u q⟩
  free := fun b u q n _ => by
    rw [upd_ne (fun z => by rw [z, hn] at q; cases q)]
    exact n
  there := fun b u q _ => ⟨u, k b u q⟩
  tups := fun b xs q => by rw [upd_ne (ne_of_none q hf)]; exact q
  frzs := fun b u xs q => by rw [upd_ne (ne_of_none q hf)]; exact q
  tbls := fun b ps q => ⟨#[], by rw [upd_ne (ne_of_none q hf), q]; simp⟩
section
variable {X : Cx}
/-- a new list, tracked -/
theorem newlist_ok {pins : List (Addr × Obj)} {σ : L2.St} {H : Hp} {s s' : Shared} {p : Addr} {out : Array Value} {c : Nat} {vs : List V} {Q : VK} (I : Inv X pins σ H s) (k : Kept s s') (hp : s.heap.get? p = none)
    (hg : s'.heap.get? p = some (seqObj "list" out c)) (hv : Vals vs out.toList) (hl : vs.length ≤ sizeLine) (q : Q (.ref p) (upd H p (.lst vs))) : EP X pins σ Q (.ref p) s' := by
  have hn : H p = none := free_of I.hok hp
  have J : Inv X pins σ (upd H p (.lst vs)) { s with heap := s'.heap, gens := s'.gens, drawn := s'.drawn, toks := s'.toks } :=
    I.call (ch := []) (un_free k.heap hp hn) (laid_free I.hok k.heap hp ⟨hl, out.toList, c, hv, hg⟩) (by rw [k.gens]; exact I.bare) (fun _ z => nomatch z)
  have e : s' = { s with heap := s'.heap, gens := s'.gens, drawn := s'.drawn, toks := s'.toks } := by
    obtain ⟨_, _, eo⟩ := k
    cases s'
    cases s
    cases eo
    rfl
  rw [e]
  exact ⟨.ref p, _, J, rfl, q⟩
/-- sorted(t), a tuple of texts -/
theorem cr_sortedTS : CallR X (.builtin "sorted") (fun vs H Q => ∃ (a : Addr) (xs : List Str), vs = [V.ref a] ∧ SqT X.K H a (xs.map V.str) ∧ xs.length < 64 ∧
    ∀ (ys : List Str) (p : Addr), ys.Perm xs → sortedS ys = true → H p = none → Q (.ref p) (upd H p (.lst (ys.map V.str)))) := by
  intro pins s σ H vs us Q I r h
  obtain ⟨a, xs, rfl, ht, h64, q⟩ := h
  obtain ⟨its, rv, ⟨o, ho, hc, n, hd⟩, hz⟩ := I.tuple ht
  rw [Vals.ref1 r]
  have hl0 := rv.length
  rw [List.length_map] at hl0
  refine sorted_from (Items := fun vs => vs = its) (Good := fun _ out => ∃ ss', StrsAre out.toList ss' ∧ ss'.Perm xs ∧ sortedS ss' = true) (fun Q' E' h' => ?_) (fun vs e => by rw [e, ← hl0]; exact h64) (fun A' E' s1 vs L R hv hoL hR => ?_) fun s' p vs out c k hp hv hg ho' => ?_
  · refine wpAny_collect_seq a (.inr rfl) ho hc hd (fun h1 hk => ?_) (by rw [List.size_toArray, ← rv.length]; exact hz)
    exact h' _ _ ⟨hk, rfl, rfl⟩ (by simp)
  · subst hv
    exact sort_strs_of rv.strs (by rw [← hl0]; exact h64) hoL fun out ss' a1 a2 a3 => hR out ⟨ss', a1, a2, a3⟩
  · obtain ⟨ss', a1, a2, a3⟩ := hg
    refine newlist_ok I k hp ho' (vals_of_strs a1) ?_ (q ss' p a2 a3 (free_of I.hok hp))
    rw [List.length_map, a2.length_eq]
    exact small64 h64
end
end FD
end
section
set_option maxHeartbeats 4000000
namespace FD
open PySem PySem.Spec PyProof.Rows L2
instance decMemKey (j : Key) (ks : List Key) : Decidable (j ∈ ks) := @List.instDecidableMemOfLawfulBEq Key instBEqOfDecidableEq _ j ks
section
variable {P : Program} {w : World} {A : Around} {E : Value → Shared → Prop} {s : Shared} {a : Addr} {S : Key → Bool} {n : Nat}
abbrev emptyS (w : World) : Obj := { cls := .type "set", dict := none, data := .set #[] 0 (.fresh 0 0 (!w.params.followText "set-order")) }
theorem setM_new {w : World} {h : Heap} {a : Addr} (ho : h.get? a = some (emptyS w)) : SetM w h a (fun _ => false) 0 := by
  refine ⟨_, #[], 0, _, ho, ⟨rfl, rfl, rfl⟩, rfl, (fun e he => by simp at he), (by simp), (fun k => by simp), (by decide), (by rfl), rfl, List.Pairwise.nil, ?_⟩
  show _ ∨ (!w.params.followText "set-order") = true
  cases w.params.followText "set-order"
  · exact .inr rfl
  · exact .inl rfl
/-- the members of the first i keys -/
abbrev upTo (ks : List Key) (i : Nat) : Key → Bool := fun j => decide (j ∈ ks.take i)
theorem fillM {I : Addr} {fp wr : List Addr} {G : Array GenState → Array GenState → Prop} {n : Nat} {Pv : Nat → Value → Prop} {St : Nat → Shared → Prop} {R : Result → Shared → Prop}
    (W : WalksS P w A.in1 I fp wr G n Pv St) (T : Addr) (hTf : T ∉ fp) (ks : List Key) (hn : n = ks.length) (hb : ks.length + 1 < scanBound) (hval : ∀ i v, Pv i v → ∃ k, ks[i]? = some k ∧ keyIs k v = true) :
    ∀ (d i : Nat) (s : Shared), n - i = d → i ≤ n → St i s → (∃ c, c ≤ i ∧ SetM w s.heap T (upTo ks i) c) →
      (∀ s' c, Moved (T :: wr) G s s' → c ≤ n → SetM w s'.heap T (fun j => decide (j ∈ ks)) c → R (.ok (.ret .none)) s') →
      codeAny (model P w) A (.builtin "set.update.loop" ⟨[.ref T, .ref I], []⟩) R s := by
  have hTw : T ∉ wr := fun h => hTf (W.sub _ h)
  have hsub : ∀ b ∈ wr, b ∈ T :: wr := fun b hb => List.mem_cons_of_mem _ hb
  intro d
  induction d with
  | zero =>
    rintro i s hd hi hst ⟨c, hc, hS⟩ hR
    obtain rfl : i = n := by omega
    refine codeAny_builtin F.entry_set_update_loop ?_
    rw [Around.under_plainId F.plain_set_update_loop _]
    show wpAny _ A.in1 (pyNext (.ref I) >>= _) _ _ s
    apply wpAny_bind
    refine W.done s _ _ hst fun s' hm => ?_
    show wpAny _ A.in1 (ret Value.none) _ _ s'
    have e : ks.take i = ks := List.take_of_length_le (by omega)
    have hS' : SetM w s.heap T (fun j => decide (j ∈ ks)) c := hS.like fun j => by
      show _ = decide (j ∈ ks.take i)
      rw [e]
    exact wpAny_pure (hR s' c (hm.mono hsub) hc (hS'.to fun o q => hm.heap T o hTw q))
  | succ d ih =>
    rintro i s hd hi hst ⟨c, hc, hS⟩ hR
    have hlt : i < n := by omega
    refine codeAny_builtin F.entry_set_update_loop ?_
    rw [Around.under_plainId F.plain_set_update_loop _]
    show wpAny _ A.in1 (pyNext (.ref I) >>= _) _ _ s
    apply wpAny_bind
    refine W.item i s _ _ hlt hst fun v s' hP hst' hm => ?_
    obtain ⟨k, hz, hkv⟩ := hval i v hP
    have hS' : SetM w s'.heap T (upTo ks i) c := hS.to fun o q => hm.heap T o hTw q
    show wpAny _ A.in1 (holding [v] (setAdd T v) >>= _) _ _ s'
    apply wpAny_bind
    apply wpAny_holding
    unfold setAdd
    apply wpAny_holding
    apply wpAny_bind
    refine (mixKind P w).pyHash (k := k) hkv ?_
    refine addM (s := { s' with toks := s'.toks + 1 }) hkv hS' (by omega) fun h' hsb hS2 => ?_
    have hS3 : SetM w h' T (upTo ks (i + 1)) (if decide (k ∈ ks.take i) = true then c else c + 1) := hS2.like fun j => by
      show decide (j ∈ ks.take (i + 1)) = (decide (j ∈ ks.take i) || decide (j = k))
      rw [List.take_add_one, hz]
      simp [List.mem_append]
    have hc3 : (if decide (k ∈ ks.take i) = true then c else c + 1) ≤ i + 1 := by
      split <;> omega
    refine wpAny_pure ⟨plainId_quiet F.plain_set_update_loop _, ih (i + 1) _ (by omega) hlt (W.frame _ s' _ _ hst' (Nat.le_succ _) fun b hb o e => ?_) ⟨_, hc3, hS3⟩ fun s'' c2 hm2 hc2 hS4 => ?_⟩
    · rw [hsb.2 b (fun h : b = T => hTf (by rw [← h]; exact hb))]
      exact e
    · refine hR s'' c2 (Moved.trans W.gtrans ((hm.mono hsub).then_heap (Nat.le_succ _) fun b o hb e => ?_) hm2) hc2 hS4
      rw [hsb.2 b (fun h : b = T => hb (by rw [h]; exact List.mem_cons_self))]
      exact e
theorem setM_card {h : Heap} {ks : List Key} {c : Nat} (R : SetM w h a (fun j => decide (j ∈ ks)) c) : ∃ ms : List Key, ms.Nodup ∧ ms.length = c ∧ ∀ k, k ∈ ms ↔ k ∈ ks := by
  obtain ⟨o, es, ep, t, ho, hex, hd, g, nd, hm, hb, hf, hn, hr, hl⟩ := R
  exact ⟨es.toList.map keyE, nd, by rw [List.length_map, Array.length_toList]; exact hn, fun k => by rw [← hm k, decide_eq_true_eq]⟩

set_option maxHeartbeats 6400000 in
/-- set(x), x a list or a tuple -/
theorem call_setM {l : Addr} {items : Array Value} {T : String} (ks : List Key) {Q : Value → Shared → Prop} (hh : A.handled = none) (hT : T = "list" ∨ T = "tuple")
    (hl : ∃ o n, s.heap.get? l = some o ∧ o.cls = .type T ∧ o.data = .seq items n) (hit : Paired (fun v k => keyIs k v = true) items.toList ks) (hb : ks.length + 1 < scanBound)
    (h : ∀ (h' : Heap) (tk c : Nat), SetM w h' s.heap.objs.size (fun j => decide (j ∈ ks)) c → (∀ b o, s.heap.get? b = some o → h'.get? b = some o) → Q (.ref s.heap.objs.size) { s with heap := h', toks := tk }) :
    wpAny (model P w) A (call (.type "set") [.ref l]) Q E s := by
  have hisz : items.size = ks.length := by
    have q := hit.length
    rw [Array.length_toList] at q
    exact q
  obtain ⟨c, tl, hmro⟩ := F.called_set.mro
  have hmade := F.called_set.made
  have hsub := F.called_set.sub
  refine wpAny_call (codeAny_of_tree ?_)
  show wpAny _ _ (callAny (.type "set") _) _ _ _
  refine wpAny_pure ⟨Code.quiet_builtin _ (by decide +kernel), codeAny_builtin F.entry_type_call ?_⟩
  rw [Around.under_plain (weight_type_call_type "set" [.ref l] []) rfl]
  have h1 := F.called_set.notType
  have h2 := F.called_set.canCreate
  have hct := F.typeCall_set_1 (.ref l)
  repeat (any_goals (first | assumption | wp_step))
  refine codeAny_mono (code_set_led1 (.ref l) (E := E) (Q₁ := fun obj s₁ => obj = .ref s.heap.objs.size ∧ s₁ = { s with heap := s.heap.push (emptyS w) }) ⟨rfl, rfl⟩) fun r s₁ hr => ?_
  cases r with
  | error e => exact hr
  | ok fl =>
    cases fl with
    | ret obj =>
      obtain ⟨rfl, rfl⟩ := hr
      have hS : (s.heap.push (emptyS w)).get? s.heap.objs.size = some (emptyS w) := Heap.get?_push_size _ rfl
      have hTy : Shared.TypeIs { s with heap := s.heap.push (emptyS w) } (.ref s.heap.objs.size) "set" := ⟨_, hS, rfl⟩
      have hli := F.called_set.init.lookup
      have hbi := F.called_set.init.bind (.ref s.heap.objs.size)
      repeat (any_goals (first | assumption | wp_step))
      refine codeAny_mono (codeAny_call_builtin (R := wants (fun r s₂ => r = .none ∧ ∃ h' tk c, s₂ = { s with heap := h', toks := tk } ∧ SetM w h' s.heap.objs.size (fun j => decide (j ∈ ks)) c ∧
          (∀ b o, s.heap.get? b = some o → h'.get? b = some o)) E) F.called_set.init.plain F.entry_set_init (check_set_init_1 hTy ?_)) fun r₂ s₂ hr₂ => ?_
      · obtain ⟨⟨ocls, odict, odata, oslots⟩, nl, hol, hcl, hdl⟩ := hl
        simp only at hcl hdl
        subst hcl; subst hdl
        have hol' : (s.heap.push (emptyS w)).get? l = some { cls := .type T, dict := odict, data := .seq items nl, slots := oslots } := Heap.get?_push_of_some _ hol
        have hlS : l < s.heap.objs.size := Heap.lt_size hol
        have hh3 : A.in1.in1.in1.handled = none := by simp [hh]
        have hneI : l ≠ (s.heap.push (emptyS w)).objs.size := by
          rw [Heap.size_push]; exact Nat.ne_of_lt (Nat.lt_succ_of_lt hlS)
        have hSf : s.heap.objs.size ∉ [(s.heap.push (emptyS w)).objs.size, l] := by
          rw [Heap.size_push]; simp only [List.mem_cons, List.mem_singleton, List.not_mem_nil, or_false, not_or]
          exact ⟨Nat.ne_of_lt (Nat.lt_succ_self _), Nat.ne_of_gt hlS⟩
        have hval : ∀ (i : Nat) (v : Value), items[i]? = some v → ∃ k, ks[i]? = some k ∧ keyIs k v = true := fun i v hv => by
          obtain ⟨k, h1, h2⟩ := paired_get hit (i := i) (a := v) (by rw [Array.getElem?_toList]; exact hv)
          exact ⟨k, h1, h2⟩
        have fin : ∀ (X : Obj) (s' : Shared) (c' : Nat) (G : Array GenState → Array GenState → Prop), (∀ x y, G x y → y = x) → (∀ b o, s.heap.get? b = some o → True) →
            Moved (s.heap.objs.size :: [(s.heap.push (emptyS w)).objs.size]) G { s with heap := (s.heap.push (emptyS w)).push X } s' → SetM w s'.heap s.heap.objs.size (fun j => decide (j ∈ ks)) c' →
            ∃ h' tk c, s' = { s with heap := h', toks := tk } ∧ SetM w h' s.heap.objs.size (fun j => decide (j ∈ ks)) c ∧ (∀ b o, s.heap.get? b = some o → h'.get? b = some o) := by
          intro X s' c' G hG _ hm hS'
          obtain ⟨h', g2, d', tk', os'⟩ := s'
          have eg : g2 = s.gens := hG _ _ hm.gens
          have ed : d' = s.drawn := hm.drawn
          have eo : os' = s.os := hm.os
          subst eg; subst ed; subst eo
          refine ⟨h', tk', c', rfl, hS', fun b o e => ?_⟩
          have hb0 : b < s.heap.objs.size := Heap.lt_size e
          have hb2 : b ≠ (s.heap.push (emptyS w)).objs.size := by
            rw [Heap.size_push]; exact Nat.ne_of_lt (Nat.lt_succ_of_lt hb0)
          exact hm.heap b o (by simp only [List.mem_cons, List.mem_singleton, List.not_mem_nil, or_false, not_or]; exact ⟨Nat.ne_of_lt hb0, hb2⟩) (Heap.get?_push_of_some _ (Heap.get?_push_of_some _ e))
        unfold Builtin.«set.__init__» noKeywords Builtin.Frozenset.updateFrom
        generalize hPI : pyIter = PI
        rcases hT with rfl | rfl
        · have hsls := F.sub_list_set
          have hslf := F.sub_list_frozenset
          have hne : (Value.type "list" == Value.type "dict") = false := by decide
          have hl1 : (s.heap.push (emptyS w)).IsList l items := ⟨_, hol', rfl, nl, rfl⟩
          repeat (first | (with_reducible_and_instances refine PySem.wpAny_pure ?_) | (with_reducible_and_instances refine PySem.wpAny_bind ?_) | ((with_reducible apply PySem.wpAny_ite_true); focus (rfl; done)) |
            ((with_reducible apply PySem.wpAny_ite_false); focus (rfl; done)) | wp_delta | wp_step)
          subst hPI
          refine wpAny_pyIter_list hl1 ?_
          apply wpAny_bind
          apply wpAny_runValue
          refine fillM ((Walks.list hh3 _ l hneI items).toS) s.heap.objs.size hSf ks hisz hb hval (items.size - 0) 0 _ (by omega) (Nat.zero_le _)
            ⟨⟨_, Heap.get?_push_size _ rfl, rfl, rfl⟩, (hl1.push _)⟩ ?hS0 ?hR
          case hS0 =>
            refine ⟨0, Nat.le_refl 0, (setM_new (Heap.get?_push_of_some _ hS)).like fun j => ?_⟩
            show decide (j ∈ ks.take 0) = false
            simp
          case hR =>
            intro s' c' hm hc' hS'
            apply wpAny_pure
            show wpAny _ _ (ret Value.none) _ _ _
            exact wpAny_pure ⟨rfl, fin _ s' c' _ (fun x y z => z) (fun _ _ _ => trivial) hm hS'⟩
        · have hsls := F.sub_tuple_set
          have hslf := F.sub_tuple_frozenset
          have hne : (Value.type "tuple" == Value.type "dict") = false := by decide
          have hl1 : (s.heap.push (emptyS w)).IsTuple l items := ⟨_, hol', rfl, nl, rfl⟩
          repeat (first | (with_reducible_and_instances refine PySem.wpAny_pure ?_) | (with_reducible_and_instances refine PySem.wpAny_bind ?_) | ((with_reducible apply PySem.wpAny_ite_true); focus (rfl; done)) |
            ((with_reducible apply PySem.wpAny_ite_false); focus (rfl; done)) | wp_delta | wp_step)
          subst hPI
          refine wpAny_pyIter_tuple hl1 ?_
          apply wpAny_bind
          apply wpAny_runValue
          refine fillM ((Walks.tuple hh3 _ l hneI items).toS) s.heap.objs.size hSf ks hisz hb hval (items.size - 0) 0 _ (by omega) (Nat.zero_le _)
            ⟨⟨_, Heap.get?_push_size _ rfl, rfl, rfl⟩, (hl1.push _)⟩ ?hS0 ?hR
          case hS0 =>
            refine ⟨0, Nat.le_refl 0, (setM_new (Heap.get?_push_of_some _ hS)).like fun j => ?_⟩
            show decide (j ∈ ks.take 0) = false
            simp
          case hR =>
            intro s' c' hm hc' hS'
            apply wpAny_pure
            show wpAny _ _ (ret Value.none) _ _ _
            exact wpAny_pure ⟨rfl, fin _ s' c' _ (fun x y z => z) (fun _ _ _ => trivial) hm hS'⟩
      · cases r₂ with
        | error e => exact hr₂
        | ok fl₂ =>
          cases fl₂ with
          | ret r =>
            obtain ⟨rfl, h', tk, c', rfl, hS', hk'⟩ := hr₂
            repeat (any_goals (first | assumption | wp_step))
            exact h _ _ _ hS' hk'
          | _ => exact hr₂.elim
    | _ => exact hr.elim
end
end FD
end
section
set_option maxHeartbeats 4000000
namespace FD
open PySem PySem.Spec PyProof.Rows L2
/-- a set in the abstract heap: its members are those of ks -/
def SetH (w : World) (a : Addr) (ks : List Key) : HO := .ext fun h => ∃ c, SetM w h a (fun j => decide (j ∈ ks)) c
section
variable {X : Cx}
theorem setH_new {w : World} {P : Program} {H : Hp} {h : Heap} {a : Addr} {ks : List Key} {c : Nat} (R : SetM w h a (fun j => decide (j ∈ ks)) c) : ObjOk P w H h a (SetH w a ks) := by
  have ⟨o, _, _, _, ho, _⟩ := R
  exact ⟨⟨c, R⟩, ⟨o, ho⟩, fun h1 h2 ⟨c1, p⟩ k => ⟨c1, SetM.to p k⟩⟩
theorem setH_get {pins : List (Addr × Obj)} {σ : L2.St} {H : Hp} {s : Shared} {a : Addr} {ks : List Key} (I : Inv X pins σ H s) (ha : H a = some (SetH X.w a ks)) : ∃ c, SetM X.w s.heap a (fun j => decide (j ∈ ks)) c := (I.hok a _ ha).1
theorem keys_of : ∀ {ks : List Key} {us : List Value}, Vals (ks.map kV) us → Paired (fun v k => keyIs k v = true) us ks
  | [], _, .nil => .nil
  | .inl i :: ks, _, .cons r t => by
    obtain ⟨tk, rfl⟩ := r
    exact .cons (keyIs_int i tk) (keys_of t)
  | .inr x :: ks, _, .cons r t => by
    obtain ⟨tk, rfl⟩ := r
    exact .cons (keyIs_str x tk) (keys_of t)
/-- set(x) -/
theorem cr_setK (hc : X.calm = true) : CallR X (.type "set") (fun vs H Q => ∃ (l : Addr) (ks : List Key), vs = [V.ref l] ∧ (SqL X.K H l (ks.map kV) ∨ SqT X.K H l (ks.map kV)) ∧ ks.length ≤ 1000 ∧
    ∀ p, H p = none → Q (.ref p) (upd H p (SetH X.w p ks))) := by
  intro pins s σ H vs us Q I r h
  obtain ⟨l, ks, rfl, hl, hz, q⟩ := h
  rw [Vals.ref1 r]
  have hb : ks.length + 1 < scanBound := Nat.lt_of_le_of_lt (Nat.succ_le_succ hz) (by decide)
  have fin : ∀ (its : List Value) (T : String), (T = "list" ∨ T = "tuple") → (∃ o n, s.heap.get? l = some o ∧ o.cls = .type T ∧ o.data = .seq its.toArray n) → Vals (ks.map kV) its →
      wpAny (model X.prog X.w) X.A (call (.type "set") [.ref l]) (EP X pins σ Q) X.xe s := fun its T hT ho rv => by
    refine call_setM (P := X.prog) (w := X.w) ks (I.ok.hd hc) hT ho (by simpa using keys_of rv) hb fun h' tk c R k => ?_
    exact ⟨.ref s.heap.objs.size, upd H s.heap.objs.size (SetH X.w s.heap.objs.size ks), I.laid (t' := tk) k (Nat.le_refl _) (setH_new R), rfl, q _ (I.hok.fresh (Nat.le_refl _))⟩
  rcases hl with hl | hl
  · obtain ⟨its, rv, pl, _⟩ := I.list hl
    obtain ⟨o, ho, hcl, n, hd⟩ := pl.isList
    exact fin its "list" (.inl rfl) ⟨o, n, ho, hcl, hd⟩ rv
  · obtain ⟨its, rv, ⟨o, ho, hcl, n, hd⟩, _⟩ := I.tuple hl
    exact fin its "tuple" (.inr rfl) ⟨o, n, ho, hcl, hd⟩ rv
/-- len of a set -/
theorem cr_lenSet : CallR X (.builtin "len") (fun vs H Q => ∃ (a : Addr) (ks : List Key), vs = [V.ref a] ∧ H a = some (SetH X.w a ks) ∧ ∀ ms : List Key, ms.Nodup → (∀ k, k ∈ ms ↔ k ∈ ks) → Q (.int ms.length) H) := by
  intro pins s σ H vs us Q I r h
  obtain ⟨a, ks, rfl, ha, q⟩ := h
  rw [Vals.ref1 r]
  obtain ⟨c, R⟩ := setH_get I ha
  obtain ⟨ms, nd, hms, hmem⟩ := setM_card R
  obtain ⟨o, es, ep, t, ho, hex, hd, g, nd', hm, hb, hf, hn, hr, hl⟩ := R
  refine call_len_set ho hex hd hf ?_ ?_
  · have : scanBound ≤ 2 ^ 30 := by decide
    omega
  · have e : (es.size : Int) = (ms.length : Nat) := by rw [hms, hn]
    rw [e]
    exact ⟨.int ms.length, H, I.tok _, ⟨_, rfl⟩, q ms nd hmem⟩
theorem items_keys {w : World} : ∀ {l : List (Int × Value)}, (∀ e ∈ l, GoodK w e) → Paired (fun v k => keyIs k v = true) (l.map (·.2)) (l.map keyE)
  | [], _ => .nil
  | e :: l, g => .cons (g e List.mem_cons_self).1 (items_keys fun x hx => g x (List.mem_cons_of_mem _ hx))
def keyV (v : Value) : Key := keyE (0, v)
theorem map_keyV (l : List (Int × Value)) : (l.map (·.2)).map keyV = l.map keyE := by
  rw [List.map_map]
  rfl
theorem strs_keys {w : World} {l : List (Int × Value)} (g : ∀ e ∈ l, GoodK w e) {vs : List Value} (pm : vs.Perm (l.map (·.2))) {xs : List Str} (h : ∀ k ∈ l.map keyE, k ∈ xs.map Sum.inr) :
    ∃ ss : List Str, StrsAre vs ss ∧ ss.map Sum.inr = vs.map keyV := by
  have hv : ∀ v ∈ vs, ∃ x t, v = Value.str x t := fun v hv => by
    obtain ⟨e, he, rfl⟩ := List.mem_map.mp (pm.mem_iff.mp hv)
    have hk := h (keyE e) (List.mem_map.mpr ⟨e, he, rfl⟩)
    obtain ⟨x, _, hx⟩ := List.mem_map.mp hk
    have gk := (g e he).1
    rw [← hx] at gk
    obtain ⟨t, ht⟩ := keyIs_rel gk
    exact ⟨x, t, ht⟩
  clear pm
  induction vs with
  | nil => exact ⟨[], .nil, rfl⟩
  | cons v vs ih =>
    obtain ⟨x, t, rfl⟩ := hv v List.mem_cons_self
    obtain ⟨ss, h1, h2⟩ := ih fun u hu => hv u (List.mem_cons_of_mem _ hu)
    exact ⟨x :: ss, .cons x t h1, by rw [List.map_cons, List.map_cons, h2] <;> rfl⟩
/-- sorted(s), a set of texts -/
theorem cr_sortedSetS (hc : X.calm = true) : CallR X (.builtin "sorted") (fun vs H Q => ∃ (a : Addr) (xs : List Str), vs = [V.ref a] ∧ H a = some (SetH X.w a (xs.map Sum.inr)) ∧ xs.length < 64 ∧
    ∀ (ys : List Str) (p : Addr), ys.Nodup → (∀ y, y ∈ ys ↔ y ∈ xs) → sortedS ys = true → H p = none → Q (.ref p) (upd H p (.lst (ys.map V.str)))) := by
  intro pins s σ H vs us Q I r h
  obtain ⟨a, xs, rfl, ha, h64, q⟩ := h
  rw [Vals.ref1 r]
  obtain ⟨c, R⟩ := setH_get I ha
  obtain ⟨o, es, ep, t, ho, hex, hd, g, nd, hm, hb, hf, hn, hr, hl⟩ := R
  have hin : ∀ k ∈ es.toList.map keyE, k ∈ xs.map Sum.inr := fun k hk => of_decide_eq_true ((hm k).2 hk)
  have hlen : (es.toList.map keyE).length ≤ xs.length := by
    have := nd.length_le_of_subset (l₂ := xs.map Sum.inr) hin
    rw [List.length_map, List.length_map] at this
    rw [List.length_map]
    exact this
  rw [List.length_map] at hlen
  refine sorted_from (Items := fun vs => vs.Perm (es.toList.map (·.2))) (Good := fun vs out => ∃ ss ss', StrsAre vs ss ∧ ss.map Sum.inr = vs.map keyV ∧ StrsAre out.toList ss' ∧ ss'.Perm ss ∧ sortedS ss' = true)
    (fun Q' E' h' => ?_) (fun vs e => ?_) (fun A' E' s1 vs L R hv hoL hR => ?_) fun s' p vs out c k hp hv hg ho' => ?_
  · exact collect_set (A := X.A.in1) (I.ok.hd hc) ⟨o, ho, hex.1, hd⟩ hf hb hr hl fun s1 out k1 hz g1 o1 pm => h' s1 out ⟨k1, g1, o1⟩ pm
  · rw [e.length_eq, List.length_map]
    omega
  · obtain ⟨ss, h1, h2⟩ := strs_keys g hv hin
    refine sort_strs_of h1 ?_ hoL fun out ss' a1 a2 a3 => hR out ⟨ss, ss', h1, h2, a1, a2, a3⟩
    rw [hv.length_eq, List.length_map]
    omega
  · obtain ⟨ss, ss', a1, a2, a3, a4, a5⟩ := hg
    have pk : (ss'.map (Sum.inr : Str → Key)).Perm (es.toList.map keyE) := by
      have q1 := (a4.map (Sum.inr : Str → Key))
      rw [a2] at q1
      have q2 := hv.map keyV
      rw [map_keyV] at q2
      exact q1.trans q2
    have nds : ss'.Nodup := List.Pairwise.of_map (Sum.inr : Str → Key) (fun _ _ hne e => hne (congrArg Sum.inr e)) (pk.nodup_iff.mpr nd)
    have mem : ∀ y, y ∈ ss' ↔ y ∈ xs := fun y => by
      have e1 : y ∈ ss' ↔ (Sum.inr y : Key) ∈ ss'.map (Sum.inr : Str → Key) := ⟨fun z => List.mem_map.mpr ⟨y, z, rfl⟩, fun z => by
        obtain ⟨y', hy, e⟩ := List.mem_map.mp z
        exact Sum.inr.inj e ▸ hy⟩
      rw [e1, pk.mem_iff, ← hm, decide_eq_true_eq]
      exact ⟨fun z => by
        obtain ⟨y', hy, e⟩ := List.mem_map.mp z
        exact Sum.inr.inj e ▸ hy, fun z => List.mem_map.mpr ⟨y, z, rfl⟩⟩
    refine newlist_ok I k hp ho' (vals_of_strs a3) ?_ (q ss' p nds mem a5 (free_of I.hok hp))
    rw [List.length_map, a4.length_eq]
    have e3 : ss.length = vs.length := by
      have := congrArg List.length a2
      rwa [List.length_map, List.length_map] at this
    rw [e3, hv.length_eq, List.length_map, sizeLine_eq]
    omega
theorem ints_keys {w : World} {l : List (Int × Value)} (g : ∀ e ∈ l, GoodK w e) {vs : List Value} (pm : vs.Perm (l.map (·.2))) {xs : List Int} (h : ∀ k ∈ l.map keyE, k ∈ xs.map Sum.inl) :
    ∃ ss : List Int, IntsAre vs ss ∧ ss.map Sum.inl = vs.map keyV := by
  have hv : ∀ v ∈ vs, ∃ x t, v = Value.int x t := fun v hv => by
    obtain ⟨e, he, rfl⟩ := List.mem_map.mp (pm.mem_iff.mp hv)
    have hk := h (keyE e) (List.mem_map.mpr ⟨e, he, rfl⟩)
    obtain ⟨x, _, hx⟩ := List.mem_map.mp hk
    have gk := (g e he).1
    rw [← hx] at gk
    obtain ⟨t, ht⟩ := keyIs_rel gk
    exact ⟨x, t, ht⟩
  clear pm
  induction vs with
  | nil => exact ⟨[], .nil, rfl⟩
  | cons v vs ih =>
    obtain ⟨x, t, rfl⟩ := hv v List.mem_cons_self
    obtain ⟨ss, h1, h2⟩ := ih fun u hu => hv u (List.mem_cons_of_mem _ hu)
    exact ⟨x :: ss, .cons x t h1, by rw [List.map_cons, List.map_cons, h2] <;> rfl⟩
/-- sorted(s), a set of whole numbers -/
theorem cr_sortedSetI (hc : X.calm = true) : CallR X (.builtin "sorted") (fun vs H Q => ∃ (a : Addr) (xs : List Int), vs = [V.ref a] ∧ H a = some (SetH X.w a (xs.map Sum.inl)) ∧ xs.length < 64 ∧
    ∀ (ys : List Int) (p : Addr), ys.Nodup → (∀ y, y ∈ ys ↔ y ∈ xs) → ys.Pairwise (· ≤ ·) → H p = none → Q (.ref p) (upd H p (.lst (ys.map V.int)))) := by
  intro pins s σ H vs us Q I r h
  obtain ⟨a, xs, rfl, ha, h64, q⟩ := h
  rw [Vals.ref1 r]
  obtain ⟨c, R⟩ := setH_get I ha
  obtain ⟨o, es, ep, t, ho, hex, hd, g, nd, hm, hb, hf, hn, hr, hl⟩ := R
  have hin : ∀ k ∈ es.toList.map keyE, k ∈ xs.map Sum.inl := fun k hk => of_decide_eq_true ((hm k).2 hk)
  have hlen : (es.toList.map keyE).length ≤ xs.length := by
    have := nd.length_le_of_subset (l₂ := xs.map Sum.inl) hin
    rw [List.length_map, List.length_map] at this
    rw [List.length_map]
    exact this
  rw [List.length_map] at hlen
  refine sorted_from (Items := fun vs => vs.Perm (es.toList.map (·.2))) (Good := fun vs out => ∃ ss ss', IntsAre vs ss ∧ ss.map Sum.inl = vs.map keyV ∧ IntsAre out.toList ss' ∧ ss'.Perm ss ∧ ss'.Pairwise (· ≤ ·))
    (fun Q' E' h' => ?_) (fun vs e => ?_) (fun A' E' s1 vs L R hv hoL hR => ?_) fun s' p vs out c k hp hv hg ho' => ?_
  · exact collect_set (A := X.A.in1) (I.ok.hd hc) ⟨o, ho, hex.1, hd⟩ hf hb hr hl fun s1 out k1 hz g1 o1 pm => h' s1 out ⟨k1, g1, o1⟩ pm
  · rw [e.length_eq, List.length_map]
    omega
  · obtain ⟨ss, h1, h2⟩ := ints_keys g hv hin
    refine list_sort_tree hoL h1 ?_ fun out ss' a1 a2 a3 => hR out ⟨ss, ss', h1, h2, a1, a2, a3⟩
    rw [hv.length_eq, List.length_map]
    omega
  · obtain ⟨ss, ss', a1, a2, a3, a4, a5⟩ := hg
    have pk : (ss'.map (Sum.inl : Int → Key)).Perm (es.toList.map keyE) := by
      have q1 := (a4.map (Sum.inl : Int → Key))
      rw [a2] at q1
      have q2 := hv.map keyV
      rw [map_keyV] at q2
      exact q1.trans q2
    have nds : ss'.Nodup := List.Pairwise.of_map (Sum.inl : Int → Key) (fun _ _ hne e => hne (congrArg Sum.inl e)) (pk.nodup_iff.mpr nd)
    have mem : ∀ y, y ∈ ss' ↔ y ∈ xs := fun y => by
      have e1 : y ∈ ss' ↔ (Sum.inl y : Key) ∈ ss'.map (Sum.inl : Int → Key) := ⟨fun z => List.mem_map.mpr ⟨y, z, rfl⟩, fun z => by
        obtain ⟨y', hy, e⟩ := List.mem_map.mp z
        exact Sum.inl.inj e ▸ hy⟩
      rw [e1, pk.mem_iff, ← hm, decide_eq_true_eq]
      exact ⟨fun z => by
        obtain ⟨y', hy, e⟩ := List.mem_map.mp z
        exact Sum.inl.inj e ▸ hy, fun z => List.mem_map.mpr ⟨y, z, rfl⟩⟩
    refine newlist_ok I k hp ho' (vals_of_ints a3) ?_ (q ss' p nds mem a5 (free_of I.hok hp))
    rw [List.length_map, a4.length_eq]
    have e3 : ss.length = vs.length := by
      have := congrArg List.length a2
      rwa [List.length_map, List.length_map] at this
    rw [e3, hv.length_eq, List.length_map, sizeLine_eq]
    omega
end
end FD
end
section
set_option maxHeartbeats 2000000
/-! what stands for good (M) within the heap (H); steps; promises; loops and comprehensions over it -/
namespace FD
open PySem PySem.Spec PyProof.Rows L2
abbrev Bg := Option (Addr × Addr × List Int)
/-- the law's bag at b over the script ns -/
structure Bag (M H : Hp) (b : Addr) (ns : Addr × List Int) : Prop where
  out : M b = none
  at_ : ∃ (i c s n : Int), H b = some (.lst [.ref ns.1, .int i, .int c, .int s, .int n]) ∧ M ns.1 = some (.lst (ns.2.map V.int)) ∧ 0 ≤ i ∧ i ≤ ns.2.length ∧ 0 ≤ c ∧ 0 ≤ s ∧ s < 2147483587
structure At (g : Bg) (M H : Hp) : Prop where
  sub : Same M H
  bag : ∀ b ns, g = some (b, ns) → Bag M H b ns
structure Stp (g : Bg) (M H M' H' : Hp) : Prop where
  at_ : At g M' H'
  mm : Same M M'
  fr : ∀ a, H a ≠ none → M a = none → M' a = none
  hh : ∀ a o, H a = some o → (∀ ns, g ≠ some (a, ns)) → H' a = some o
  dom : ∀ a, H a ≠ none → H' a ≠ none
section
variable {g : Bg} {M H M' H' M1 H1 M2 H2 : Hp} {a p D b : Addr} {o u : HO} {ns : Addr × List Int}
theorem At.pure (h : Same M H) : At none M H := ⟨h, fun _ _ e => nomatch e⟩
theorem Stp.refl (h : At g M H) : Stp g M H M H := ⟨h, Same.refl M, fun _ _ e => e, fun _ _ e _ => e, fun _ e => e⟩
theorem Stp.trans (s : Stp g M H M1 H1) (t : Stp g M1 H1 M2 H2) : Stp g M H M2 H2 :=
  ⟨t.at_, s.mm.trans t.mm, fun a h1 h2 => t.fr a (s.dom a h1) (s.fr a h1 h2), fun a o e n => t.hh a o (s.hh a o e n) n, fun a h => t.dom a (s.dom a h)⟩
theorem some_ne {H : Hp} {a : Addr} {o : HO} (h : H a = some o) : H a ≠ none := fun e => by rw [h] at e; cases e
/-- a promise without the bag, where there is one -/
theorem Stp.lift (s : Stp none M H M' H') (h : At g M H) : Stp g M H M' H' := by
  have all : ∀ a o, H a = some o → H' a = some o := fun a o e => s.hh a o e fun _ z => nomatch z
  refine ⟨⟨s.at_.sub, fun b ns e => ?_⟩, s.mm, s.fr, fun a o e _ => all a o e, s.dom⟩
  obtain ⟨h1, i, c, z, n, h2, h3, h4⟩ := h.bag b ns e
  exact ⟨s.fr b (some_ne h2) h1, i, c, z, n, all _ _ h2, s.mm _ _ h3, h4⟩
theorem At.freeM (h : At g M H) (hp : H p = none) : M p = none := h.sub.free hp
/-- a new thing that stands for good -/
theorem Stp.new (h : At g M H) (hp : H p = none) (o : HO) : Stp g M H (upd M p o) (upd H p o) := by
  have hm := h.freeM hp
  refine ⟨⟨fun b u e => ?_, fun b ns e => ?_⟩, fun b u e => ?_, fun b h1 h2 => ?_, fun b u e _ => ?_, fun b h1 => ?_⟩
  · by_cases q : b = p
    · subst q
      rw [upd_same] at e ⊢
      exact e
    · rw [upd_ne q] at e ⊢
      exact h.sub b u e
  · obtain ⟨h1, i, c, z, n, h2, h3, h4⟩ := h.bag b ns e
    exact ⟨by rw [upd_ne (ne_of_none h2 hp)]; exact h1, i, c, z, n, by rw [upd_ne (ne_of_none h2 hp)]; exact h2, by rw [upd_ne (ne_of_none h3 hm)]; exact h3, h4⟩
  · rw [upd_ne (ne_of_none e hm)]; exact e
  · rw [upd_ne (fun z => h1 (by rw [z]; exact hp))]; exact h2
  · rw [upd_ne (ne_of_none e hp)]; exact e
  · rw [upd_ne (fun z => h1 (by rw [z]; exact hp))]; exact h1
/-- a new thing that will change -/
theorem Stp.tmp (h : At g M H) (hp : H p = none) (o : HO) : Stp g M H M (upd H p o) := by
  refine ⟨⟨fun b u e => ?_, fun b ns e => ?_⟩, Same.refl M, fun b _ h2 => h2, fun b u e _ => ?_, fun b h1 => ?_⟩
  · rw [upd_ne (ne_of_none (h.sub b u e) hp)]; exact h.sub b u e
  · obtain ⟨h1, i, c, z, n, h2, h3⟩ := h.bag b ns e
    exact ⟨h1, i, c, z, n, by rw [upd_ne (ne_of_none h2 hp)]; exact h2, h3⟩
  · rw [upd_ne (ne_of_none e hp)]; exact e
  · rw [upd_ne (fun z => h1 (by rw [z]; exact hp))]; exact h1
/-- a thing of our own is changed -/
theorem Stp.put (s : Stp g M H M1 H1) (h0 : H D = none) (hM : M1 D = none) (hb : ∀ ns, g ≠ some (D, ns)) (o : HO) : Stp g M H M1 (upd H1 D o) := by
  refine ⟨⟨fun b u e => ?_, fun b ns e => ?_⟩, s.mm, s.fr, fun b u e n => ?_, fun b h1 => ?_⟩
  · rw [upd_ne (ne_of_none e hM)]; exact s.at_.sub b u e
  · obtain ⟨h1, i, c, z, n, h2, h3⟩ := s.at_.bag b ns e
    have q : b ≠ D := fun z => hb ns (by rw [← z]; exact e)
    exact ⟨h1, i, c, z, n, by rw [upd_ne q]; exact h2, h3⟩
  · rw [upd_ne (ne_of_none e h0)]; exact s.hh b u e n
  · rw [upd_ne (fun z => h1 (by rw [z]; exact h0))]; exact s.dom b h1
/-- a thing of our own stands for good from here on -/
theorem Stp.frz (s : Stp g M H M1 H1) (h0 : H D = none) (hM : M1 D = none) (hD : H1 D = some o) (hb : ∀ ns, g ≠ some (D, ns)) : Stp g M H (upd M1 D o) H1 := by
  refine ⟨⟨fun b u e => ?_, fun b ns e => ?_⟩, fun b u e => ?_, fun b h1 h2 => ?_, s.hh, s.dom⟩
  · by_cases q : b = D
    · subst q
      rw [upd_same] at e
      rw [hD]
      exact e
    · rw [upd_ne q] at e
      exact s.at_.sub b u e
  · obtain ⟨h1, i, c, z, n, h2, h3, h4⟩ := s.at_.bag b ns e
    have q : b ≠ D := fun z => hb ns (by rw [← z]; exact e)
    exact ⟨by rw [upd_ne q]; exact h1, i, c, z, n, h2, by rw [upd_ne (ne_of_none h3 hM)]; exact h3, h4⟩
  · rw [upd_ne (ne_of_none (s.mm b u e) hM)]; exact s.mm b u e
  · rw [upd_ne (fun z => h1 (by rw [z]; exact h0))]; exact s.fr b h1 h2
theorem notbag (h : At g M H) (h0 : H D = none) : ∀ ns, g ≠ some (D, ns) := fun ns e => by
  obtain ⟨_, i, c, z, n, h2, _⟩ := h.bag D ns e
  rw [h0] at h2
  cases h2
end

/-! ### promises -/
def Pur {ι : Type} (pre : ι → List V → Hp → Prop) (post : ι → V → Hp → Prop) : Sp := fun vs H Q _ => ∃ (i : ι) (M : Hp), Same M H ∧ pre i vs M ∧ ∀ v M' H', Stp none M H M' H' → post i v M' → Q v H'
def Drw {ι : Type} (pre : ι → List V → Hp → Prop) (post : ι → V → Hp → Prop) : Sp := fun vs H Q _ => ∃ (i : ι) (M : Hp) (b : Addr) (ns : Addr × List Int) (ws : List V), vs = .ref b :: ws ∧ At (some (b, ns)) M H ∧ pre i ws M ∧
  ∀ v M' H', Stp (some (b, ns)) M H M' H' → post i v M' → Q v H'
section
variable {ι : Type} {pre : ι → List V → Hp → Prop} {post : ι → V → Hp → Prop} {g : Bg} {M H : Hp} {vs : List V} {Q : VK} {E : XK}
theorem Pur.go (i : ι) (h : At g M H) (hp : pre i vs M) (k : ∀ v M' H', Stp g M H M' H' → post i v M' → Q v H') : Pur pre post vs H Q E := ⟨i, M, h.sub, hp, fun v M' H' s p => k v M' H' (s.lift h) p⟩
theorem Drw.go {b : Addr} {ns : Addr × List Int} (i : ι) (h : At (some (b, ns)) M H) (hp : pre i vs M) (k : ∀ v M' H', Stp (some (b, ns)) M H M' H' → post i v M' → Q v H') : Drw pre post (.ref b :: vs) H Q E := ⟨i, M, b, ns, vs, rfl, h, hp, k⟩
end

/-! ### comprehensions -/
/-- a turn of a comprehension: acc stands at D, M1 within H1 -/
structure Tn (g : Bg) (M H : Hp) (D : Addr) (n : Nat) (I : Nat → List V → Hp → Prop) (i : Nat) (acc : List V) (M1 H1 : Hp) : Prop where
  s : Stp g M H M1 H1
  here : H1 D = some (.lst acc)
  out : M1 D = none
  len : acc.length ≤ i
  inv : I i acc M1
  le : i ≤ n
  few : n ≤ 1000000
  hD : H D = none
  nb : ∀ ns, g ≠ some (D, ns)
def Pn (g : Bg) (M H : Hp) (D : Addr) (n : Nat) (I : Nat → List V → Hp → Prop) (i : Nat) (H' : Hp) : Prop := ∃ acc M', Tn g M H D n I i acc M' H'
section
variable {g : Bg} {M H M1 H1 M5 H5 : Hp} {D : Addr} {n i : Nat} {I : Nat → List V → Hp → Prop} {acc : List V} {y : V}
theorem Tn.yes (T : Tn g M H D n I i acc M1 H1) (hi : i < n) (s : Stp g M1 H1 M5 H5) (h : I (i + 1) (acc ++ [y]) M5) : ∃ acc, H5 D = some (.lst acc) ∧ acc.length < sizeLine ∧ Pn g M H D n I (i + 1) (upd H5 D (.lst (acc ++ [y]))) := by
  have e := s.hh D _ T.here T.nb
  have o := s.fr D (some_ne T.here) T.out
  have l := T.len
  have f := T.few
  refine ⟨acc, e, by rw [sizeLine_eq]; omega, acc ++ [y], M5, (T.s.trans s).put T.hD o T.nb _, upd_same, o, ?_, h, hi, f, T.hD, T.nb⟩
  rw [List.length_append]
  exact Nat.succ_le_succ l
theorem Tn.no (T : Tn g M H D n I i acc M1 H1) (hi : i < n) (s : Stp g M1 H1 M5 H5) (h : I (i + 1) acc M5) : Pn g M H D n I (i + 1) H5 := by
  have l := T.len
  exact ⟨acc, M5, T.s.trans s, s.hh D _ T.here T.nb, s.fr D (some_ne T.here) T.out, Nat.le_succ_of_le l, h, hi, T.few, T.hD, T.nb⟩
variable {J : It} {G : Hp → Prop} {Y : Nat → Hp → V → Hp → Prop}
theorem lc_go (wk : Walk J n G Y) {tg : TG} {tt : TT} {te : TE} {vs : List Nat} {σ : L2.St} {Q : VK} (I : Nat → List V → Hp → Prop) (h : At g M H) (hn : n ≤ 1000000) (hG : ∀ M' H', Same M M' → At g M' H' → G H') (h0 : I 0 [] M)
    (turn : ∀ D i acc M1 H1 x H2, i < n → Tn g M H D n I i acc M1 H1 → Y i H1 x H2 → tg x (wipe σ vs) H2 fun σ2 H3 => wipe σ2 vs = wipe σ vs ∧ tt σ2 H3 fun b H4 =>
      if b = true then te σ2 H4 fun y H5 => ∃ acc, H5 D = some (.lst acc) ∧ acc.length < sizeLine ∧ Pn g M H D n I (i + 1) (upd H5 D (.lst (acc ++ [y]))) else Pn g M H D n I (i + 1) H4)
    (k : ∀ D acc M1 M' H', I n acc M1 → acc.length ≤ n → Same M1 M' → M' D = some (.lst acc) → Stp g M H M' H' → Q (.ref D) H') :
    ∀ D, H D = none → ∃ W : Nat → Nat → Hp → Prop, (∃ m, W 0 m (upd H D (.lst []))) ∧ ∀ i m H, W i m H →
      (J.stop i H ∧ Q (.ref D) H) ∨ (J.go i H ∧ ∃ Nx : Hp → Prop, (∀ H', Nx H' → ∃ m', m' < m ∧ W (i + 1) m' H') ∧ ∀ x H', J.yld i H x H' → tg x (wipe σ vs) H' fun σ2 H2 => wipe σ2 vs = wipe σ vs ∧ tt σ2 H2 fun b H3 =>
        if b = true then te σ2 H3 fun y H4 => ∃ acc, H4 D = some (.lst acc) ∧ acc.length < sizeLine ∧ Nx (upd H4 D (.lst (acc ++ [y]))) else Nx H3) := by
  intro D hD
  have nb := notbag h hD
  refine lc_it wk (Qd := fun H => Q (.ref D) H) (H1 := H) (Pn g M H D n I) ?_ ?_ ?_ ?_
  · exact ⟨[], M, Stp.tmp h hD _, upd_same, h.freeM hD, Nat.le_refl _, h0, Nat.zero_le _, hn, hD, nb⟩
  · rintro i H' _ ⟨acc, M', T⟩
    exact hG M' H' T.s.mm T.s.at_
  · rintro i x H1 H2 hi ⟨acc, M1, T⟩ y
    exact turn D i acc M1 H1 x H2 hi T y
  · rintro H' ⟨acc, M', T⟩
    exact k D acc M' (upd M' D (.lst acc)) H' T.inv T.len (fun b u e => by rw [upd_ne (ne_of_none e T.out)]; exact e) upd_same (T.s.frz hD T.out T.here nb)
end

/-! ### loops -/
section
variable {g : Bg} {M H M0 H0 : Hp} {n : Nat} {J : It} {G : Hp → Prop} {Y : Nat → Hp → V → Hp → Prop}
theorem for_go (wk : Walk J n G Y) {tg : TG} {tb : TS} {D : Ends} {σ : L2.St} (Pv : Nat → L2.St → Hp → Hp → Prop) (hs0 : Stp g M0 H0 M H) (hG : ∀ M' H', Same M M' → At g M' H' → G H') (h0 : Pv 0 σ M H)
    (turn : ∀ i σ1 M1 H1 x H2, i < n → Same M M1 → Stp g M0 H0 M1 H1 → Pv i σ1 M1 H1 → Y i H1 x H2 → tg x σ1 H2 fun σ2 H3 =>
      tb { D with nx := fun σ' H' => ∃ M', Same M M' ∧ Stp g M0 H0 M' H' ∧ Pv (i + 1) σ' M' H', ct := fun σ' H' => ∃ M', Same M M' ∧ Stp g M0 H0 M' H' ∧ Pv (i + 1) σ' M' H', bk := D.nx } σ2 H3)
    (done : ∀ σ' M' H', Same M M' → Stp g M0 H0 M' H' → Pv n σ' M' H' → D.nx σ' H') :
    ∃ W : Nat → Nat → L2.St → Hp → Prop, (∃ m, W 0 m σ H) ∧ ∀ i m σ H, W i m σ H →
      (J.stop i H ∧ D.nx σ H) ∨ (J.go i H ∧ ∃ N : L2.St → Hp → Prop, (∀ σ' H', N σ' H' → ∃ m', m' < m ∧ W (i + 1) m' σ' H') ∧ ∀ x H', J.yld i H x H' → tg x σ H' fun σ2 H2 => tb { D with nx := N, ct := N, bk := D.nx } σ2 H2) := by
  refine for_it wk (fun i σ' H' => ∃ M', Same M M' ∧ Stp g M0 H0 M' H' ∧ Pv i σ' M' H') ⟨M, Same.refl M, hs0, h0⟩ ?_ ?_ ?_
  · rintro i σ' H' _ ⟨M', q, s, _⟩
    exact hG M' H' q s.at_
  · rintro i x σ1 H1 H2 hi ⟨M1, q, s, p⟩ y
    exact turn i σ1 M1 H1 x H2 hi q s p y
  · rintro σ' H' ⟨M', q, s, p⟩
    exact done σ' M' H' q s p
end
end FD
end
section
set_option maxHeartbeats 2000000
/-! operators by their kinds at once; methods and properties by promises of values -/
namespace FD
open PySem PySem.Spec PyProof.Rows L2
section
variable {X : Cx}
def o_add := (op_add (X := X)).or (op_add_str.or (op_cat.or op_catA))
def o_eq (hu : X.A.units + 64 < cLine) := (op_eq (X := X)).or (op_eqD hu)
def o_ne (hu : X.A.units + 64 < cLine) := (op_ne (X := X)).or (op_neD hu)
def o_in := (op_in_seq (X := X)).or op_in_sign
def o_nin := (op_notIn_seq (X := X)).or op_notIn_sign
def x_get := (ix_seq (X := X)).or ix_kdict
def s_cut := (sl_list (X := X)).or (sl_tupA.or sl_str)
def c_len := (call_len (X := X)).or cr_lenSet
def c_list (hc : X.calm = true) := (call_list_of (X := X)).or (call_list_dK hc)
def c_sorted (hc : X.calm = true) := (cr_sortedS (X := X)).or (cr_sortedTS.or ((cr_sortedSetS hc).or (cr_sortedSetI hc)))
def c_isi := (call_isi (X := X)).or call_isiT
variable {k : Nat} {f C p : Addr} {sp : Sp} {x m : Str} {e o : Expr} {es : List Expr} {te ta : TE} {t : TA} {pos apos : Pos}
/-- o.m(e, ..) -/
theorem pe_me {pl : Sem Bool} (he : PE X o ta) (c : Cls X.K C) (hm : Meth X.K C m f) (F : FnR X.prog X.w X.K X.mg X.base CX0 k f sp) (hr : Room k X.A) (ha : PA X (e :: es) t)
    (hst : starEach (e :: es) X.env = (false, eval e X.env) :: starEach es X.env := by rfl) (hpl : (backTo pos (starEach es X.env)).any (·.1) = false := by rfl)
    (ht : eval (.Call (.Attribute o m apos) (e :: es) [] pos) X.env = (do
      let z ← eval o X.env
      standAt apos.atName
      let (f, first) ← holding [z] (getMethod z m pl)
      callWith pos f first (backTo pos (starEach (e :: es) X.env)) (backToKw pos (keywordEach [] X.env))) := by rfl) :
    PE X (.Call (.Attribute o m apos) (e :: es) [] pos) (fun σ H Q => ta σ H fun y H1 => ∃ a dx fs, y = .ref a ∧ H1 a = some (.ins C dx fs) ∧ fs.lookup m = none ∧ t σ H1 fun vs H2 => sp (.ref a :: vs) H2 Q E0) := by
  constructor
  intro pins s σ H Q I h
  apply PySem.W.methodCall_KW (pl := pl) (he := ht)
  refine thn (he.run pins s σ H _ I h) ?_
  rintro u s1 ⟨y, H1, I1, ry, a, dx, fs, rfl, ea, l, q⟩
  obtain rfl : u = Value.ref a := ry
  apply getmeth_ok I1 ea c hm l
  apply PySem.W.callWith_K (first := [.ref a]) (h₀ := X.base) I.ok.mod.kin hm.kp (he := hst) (hplain := hpl)
  refine thn (ha.run pos pins s1 σ H1 _ I1 q) ?_
  rintro us s2 ⟨vs, H2, I2, r, q2⟩
  exact And.intro I2.kIn (wpAny_call (run_fnR (us := .ref a :: us) (vs := .ref a :: vs) F hr pass0 I2 (.cons (rfl : RelV (.ref a) (.ref a)) r) q2))
/-- o.m() -/
theorem pe_me0 {pl : Sem Bool} (he : PE X o ta) (c : Cls X.K C) (hm : Meth X.K C m f) (F : FnR X.prog X.w X.K X.mg X.base CX0 k f sp) (hr : Room k X.A)
    (ht : eval (.Call (.Attribute o m apos) [] [] pos) X.env = (do
      let z ← eval o X.env
      standAt apos.atName
      let (f, first) ← holding [z] (getMethod z m pl)
      callWith pos f first (backTo pos (starEach [] X.env)) (backToKw pos (keywordEach [] X.env))) := by rfl) :
    PE X (.Call (.Attribute o m apos) [] [] pos) (fun σ H Q => ta σ H fun y H1 => ∃ a dx fs, y = .ref a ∧ H1 a = some (.ins C dx fs) ∧ fs.lookup m = none ∧ sp [.ref a] H1 Q E0) := by
  constructor
  intro pins s σ H Q I h
  apply PySem.W.methodCall_KW (pl := pl) (he := ht)
  refine thn (he.run pins s σ H _ I h) ?_
  rintro u s1 ⟨y, H1, I1, ry, a, dx, fs, rfl, ea, l, q⟩
  obtain rfl : u = Value.ref a := ry
  apply getmeth_ok I1 ea c hm l
  exact PySem.W.callWith_K0 (first := [.ref a]) I1.kIn hm.kp (wpAny_call (run_fnR (us := [.ref a]) (vs := [.ref a]) F hr pass0 I1 (.cons (rfl : RelV (.ref a) (.ref a)) .nil) q))
/-- o.m, a property -/
theorem pe_pr {b : Expr} (he : PE X e te) (c : Cls X.K C) (hp : PropOf X.K C m p f) (F : FnR X.prog X.w X.K X.mg X.base CX0 k f sp) (hr : Room (k + 1) X.A) (hab : attributeBase e m X.env (eval e X.env) = eval e X.env := by rfl) :
    PE X (.Attribute e m pos) (fun σ H Q => te σ H fun y H1 => ∃ a dx fs, y = .ref a ∧ H1 a = some (.ins C dx fs) ∧ sp [.ref a] H1 Q E0) := by
  constructor
  intro pins s σ H Q I h
  refine attr_of hab (thn (he.run pins s σ H _ I h) ?_)
  rintro u s1 ⟨y, H1, I1, ry, a, dx, fs, rfl, ea, q⟩
  obtain rfl : u = Value.ref a := ry
  obtain ⟨mA, O, _, _, _, _⟩ := ins_get I1.hok ea
  obtain ⟨od, J, _⟩ := O.look
  obtain ⟨rest, hrec⟩ := hp.rec_
  have I2 := I1.tok (s1.toks + 1)
  have hc : (PySem.W.clsIn X.K C).isSome = true := by
    obtain ⟨cd, hc, _⟩ := PySem.W.any_some c.hd
    rw [hc]
    rfl
  refine PySem.W.get_bind I1.kIn J (PySem.W.plainGet_of (c.get m)).1 (PySem.W.findObj_data hc hp.at_ hp.get hp.tak) (PySem.W.plainGet_of (c.get m)).2 (wpAny_call (PySem.W.prop_get (s := { s1 with toks := s1.toks + 1 }) I1.kIn hrec ?_))
  refine codeAny_mono (F X.A.in1 X.stack { s1 with toks := s1.toks + 1 } H1 [.ref a] [.ref a] Q E0 hr.in1 I2.env0.in1 (.cons (rfl : RelV (.ref a) (.ref a)) .nil) q) fun r s' hq => ?_
  cases r with
  | error er => exact False.elim hq
  | ok fl =>
    cases fl with
    | ret u =>
      obtain ⟨v, H', I3, rv, q3⟩ := I2.after hq
      show wpAny _ _ (handedOut u) _ _ _
      rw [PySem.W.handedOut_of (handed_of rv)]
      exact wpAny_pure ⟨v, H', I3, rv, q3⟩
    | next => exact False.elim hq
    | brk => exact False.elim hq
    | cont => exact False.elim hq
/-- e.f, e a class, f a constant of it -/
theorem pe_cc {mc u : Value} {v : V} (hg : Gl X x) (hm : X.mg x = some (.ref C)) (r : ClX.CRead X.K C mc) (c : ClX.CVal X.K C mc m v u) (hd : (x == ("__debug__" : Str)) = false := by decide)
    (hb : attributeBase (.Name x apos) m X.env (eval (.Name x apos) X.env) = eval (.Name x apos) X.env := by rfl) : PE X (.Attribute (.Name x apos) m pos) (tC v) := by
  constructor
  intro pins s σ H Q I h
  exact (ClX.pe_cval (pe_glob (v := .ref C) hg hm rfl hd) hb).run pins s σ H Q I ⟨C, mc, v, u, rfl, r, c, h⟩
end
end FD
end
section
set_option maxHeartbeats 2000000
/-! deep data over a heap; slots; the environment -/
namespace FD
open PySem PySem.Spec PyProof.Rows L2
inductive D where
  | non | bl (b : Bool) | int (i : Int) | str (s : Str) | adr (a : Addr) | tup (ds : List D) | lst (ds : List D) | dic (kvs : List (Str × D)) | ins (C : Addr) (fs : List (Str × D))
mutual
inductive Is (M : Hp) : D → V → Prop
  | non : Is M .non .non
  | bl (b : Bool) : Is M (.bl b) (.bl b)
  | int (i : Int) : Is M (.int i) (.int i)
  | str (s : Str) : Is M (.str s) (.str s)
  | adr (a : Addr) : Is M (.adr a) (.ref a)
  | tup {a : Addr} {ds : List D} {vs : List V} (h : M a = some (.tup vs)) (l : IsL M ds vs) : Is M (.tup ds) (.ref a)
  | lst {a : Addr} {ds : List D} {vs : List V} (h : M a = some (.lst vs)) (l : IsL M ds vs) : Is M (.lst ds) (.ref a)
  | dic {a : Addr} {ds : List (Str × D)} {ws : List (Key × V)} (h : M a = some (.dK ws)) (l : IsK M ds ws) : Is M (.dic ds) (.ref a)
  | ins {a C dx : Addr} {fs : List (Str × D)} {ws : List (Str × V)} (h : M a = some (.ins C dx ws)) (l : IsF M fs ws) : Is M (.ins C fs) (.ref a)
inductive IsL (M : Hp) : List D → List V → Prop
  | nil : IsL M [] []
  | cons {d : D} {v : V} {ds : List D} {vs : List V} (h : Is M d v) (t : IsL M ds vs) : IsL M (d :: ds) (v :: vs)
inductive IsK (M : Hp) : List (Str × D) → List (Key × V) → Prop
  | nil : IsK M [] []
  | cons {x : Str} {d : D} {v : V} {ds : List (Str × D)} {vs : List (Key × V)} (h : Is M d v) (t : IsK M ds vs) : IsK M ((x, d) :: ds) ((.inr x, v) :: vs)
inductive IsF (M : Hp) : List (Str × D) → List (Str × V) → Prop
  | nil : IsF M [] []
  | cons {x : Str} {d : D} {v : V} {ds : List (Str × D)} {vs : List (Str × V)} (h : Is M d v) (t : IsF M ds vs) : IsF M ((x, d) :: ds) ((x, v) :: vs)
end
section
variable {M M' : Hp}
mutual
theorem Is.mono (s : Same M M') : ∀ {d : D} {v : V}, Is M d v → Is M' d v
  | _, _, .non => .non
  | _, _, .bl b => .bl b
  | _, _, .int i => .int i
  | _, _, .str x => .str x
  | _, _, .adr a => .adr a
  | _, _, .tup h l => .tup (s _ _ h) (IsL.mono s l)
  | _, _, .lst h l => .lst (s _ _ h) (IsL.mono s l)
  | _, _, .dic h l => .dic (s _ _ h) (IsK.mono s l)
  | _, _, .ins h l => .ins (s _ _ h) (IsF.mono s l)
theorem IsL.mono (s : Same M M') : ∀ {ds : List D} {vs : List V}, IsL M ds vs → IsL M' ds vs
  | _, _, .nil => .nil
  | _, _, .cons h t => .cons (Is.mono s h) (IsL.mono s t)
theorem IsK.mono (s : Same M M') : ∀ {ds : List (Str × D)} {vs : List (Key × V)}, IsK M ds vs → IsK M' ds vs
  | _, _, .nil => .nil
  | _, _, .cons h t => .cons (Is.mono s h) (IsK.mono s t)
theorem IsF.mono (s : Same M M') : ∀ {ds : List (Str × D)} {vs : List (Str × V)}, IsF M ds vs → IsF M' ds vs
  | _, _, .nil => .nil
  | _, _, .cons h t => .cons (Is.mono s h) (IsF.mono s t)
end
theorem IsL.length : ∀ {ds : List D} {vs : List V}, IsL M ds vs → vs.length = ds.length
  | _, _, .nil => rfl
  | _, _, .cons _ t => congrArg (· + 1) t.length
theorem IsL.get : ∀ {ds : List D} {vs : List V} {i : Nat} {d : D}, IsL M ds vs → ds[i]? = some d → ∃ v, vs[i]? = some v ∧ Is M d v
  | _, _, _, _, .nil, e => by simp at e
  | _, _, 0, _, .cons h _, e => by simp at e; subst e; exact ⟨_, rfl, h⟩
  | _, _, i + 1, _, .cons _ t, e => by
    obtain ⟨v, h1, h2⟩ := t.get (i := i) (by simpa using e)
    exact ⟨v, by simpa using h1, h2⟩
theorem IsL.back : ∀ {ds : List D} {vs : List V} {i : Nat} {v : V}, IsL M ds vs → vs[i]? = some v → ∃ d, ds[i]? = some d ∧ Is M d v
  | _, _, _, _, .nil, e => by simp at e
  | _, _, 0, _, .cons h _, e => by simp at e; subst e; exact ⟨_, rfl, h⟩
  | _, _, i + 1, _, .cons _ t, e => by
    obtain ⟨v, h1, h2⟩ := t.back (i := i) (by simpa using e)
    exact ⟨v, by simpa using h1, h2⟩
theorem IsL.append : ∀ {ds es : List D} {vs ws : List V}, IsL M ds vs → IsL M es ws → IsL M (ds ++ es) (vs ++ ws)
  | _, _, _, _, .nil, s => s
  | _, _, _, _, .cons h t, s => .cons h (t.append s)
theorem IsL.take : ∀ {ds : List D} {vs : List V} (n : Nat), IsL M ds vs → IsL M (ds.take n) (vs.take n)
  | _, _, 0, _ => .nil
  | _, _, _ + 1, .nil => .nil
  | _, _, n + 1, .cons h t => .cons h (t.take n)
theorem IsL.drop : ∀ {ds : List D} {vs : List V} (n : Nat), IsL M ds vs → IsL M (ds.drop n) (vs.drop n)
  | _, _, 0, h => h
  | _, _, _ + 1, .nil => .nil
  | _, _, n + 1, .cons _ t => t.drop n
theorem IsL.set {d : D} {v : V} (h : Is M d v) : ∀ {ds : List D} {vs : List V} (n : Nat), IsL M ds vs → IsL M (ds.set n d) (vs.set n v)
  | _, _, _, .nil => .nil
  | _, _, 0, .cons _ t => .cons h t
  | _, _, n + 1, .cons q t => .cons q (IsL.set h n t)
theorem IsL.eraseIdx : ∀ {ds : List D} {vs : List V} (n : Nat), IsL M ds vs → IsL M (ds.eraseIdx n) (vs.eraseIdx n)
  | _, _, _, .nil => .nil
  | _, _, 0, .cons _ t => t
  | _, _, n + 1, .cons q t => .cons q (t.eraseIdx n)
theorem IsL.one {d : D} {v : V} (h : Is M d v) : IsL M [d] [v] := .cons h .nil
theorem IsL.reverse : ∀ {ds : List D} {vs : List V}, IsL M ds vs → IsL M ds.reverse vs.reverse
  | _, _, .nil => .nil
  | _, _, .cons h t => by
    rw [List.reverse_cons, List.reverse_cons]
    exact t.reverse.append (.one h)
/-- a list of texts, of bools, of ints -/
theorem IsL.strs : ∀ {ss : List Str} {vs : List V}, IsL M (ss.map D.str) vs → vs = ss.map V.str
  | [], _, .nil => rfl
  | _ :: _, _, .cons (.str _) t => congrArg _ t.strs
theorem IsL.bls : ∀ {ss : List Bool} {vs : List V}, IsL M (ss.map D.bl) vs → vs = ss.map V.bl
  | [], _, .nil => rfl
  | _ :: _, _, .cons (.bl _) t => congrArg _ t.bls
theorem IsL.ints : ∀ {ss : List Int} {vs : List V}, IsL M (ss.map D.int) vs → vs = ss.map V.int
  | [], _, .nil => rfl
  | _ :: _, _, .cons (.int _) t => congrArg _ t.ints
theorem IsL.ofStrs : ∀ (ss : List Str), IsL M (ss.map D.str) (ss.map V.str)
  | [] => .nil
  | s :: ss => .cons (.str s) (.ofStrs ss)
theorem IsL.ofInts : ∀ (ss : List Int), IsL M (ss.map D.int) (ss.map V.int)
  | [] => .nil
  | s :: ss => .cons (.int s) (.ofInts ss)
theorem IsF.get : ∀ {fs : List (Str × D)} {ws : List (Str × V)} {m : Str} {d : D}, IsF M fs ws → fs.lookup m = some d → ∃ v, ws.lookup m = some v ∧ Is M d v
  | _, _, _, _, .nil, e => by simp at e
  | _, _, m, _, .cons (x := x) h t, e => by
    by_cases q : m == x
    · simp only [List.lookup, q] at e ⊢
      cases e
      exact ⟨_, rfl, h⟩
    · simp only [List.lookup, q] at e ⊢
      exact t.get e
theorem IsF.no : ∀ {fs : List (Str × D)} {ws : List (Str × V)} {m : Str}, IsF M fs ws → fs.lookup m = none → ws.lookup m = none
  | _, _, _, .nil, e => rfl
  | _, _, m, .cons (x := x) h t, e => by
    by_cases q : m == x
    · simp only [List.lookup, q] at e
      cases e
    · simp only [List.lookup, q] at e ⊢
      exact t.no e
theorem IsF.length : ∀ {ds : List (Str × D)} {vs : List (Str × V)}, IsF M ds vs → vs.length = ds.length
  | _, _, .nil => rfl
  | _, _, .cons _ t => congrArg (· + 1) t.length
theorem IsK.length : ∀ {ds : List (Str × D)} {vs : List (Key × V)}, IsK M ds vs → vs.length = ds.length
  | _, _, .nil => rfl
  | _, _, .cons _ t => congrArg (· + 1) t.length
end
end FD
end
section
set_option maxHeartbeats 2000000
/-! slots and the environment; what an expression gives (J), a test (JT), arguments (JA), a block (SS) -/
namespace FD
open PySem PySem.Spec PyProof.Rows L2
inductive Slot where
  | any | ro (d : D) | own (ds : List D) | ownd (kvs : List (Str × D)) | slf (a C : Addr) (fs : List (Str × D))
def Slot.owned : Slot → Bool
  | .any => false
  | .ro _ => false
  | _ => true
structure Ba where
  M : Hp
  H : Hp
def SlotOk (H0 M H : Hp) (s : Slot) (o : Option V) : Prop := match s with
  | .any => True
  | .ro d => ∃ v, o = some v ∧ Is M d v
  | .own ds => ∃ p vs, o = some (.ref p) ∧ H0 p = none ∧ M p = none ∧ H p = some (.lst vs) ∧ IsL M ds vs
  | .ownd kvs => ∃ p ws, o = some (.ref p) ∧ H0 p = none ∧ M p = none ∧ H p = some (.dK ws) ∧ IsK M kvs ws
  | .slf p C fs => ∃ dx ws, o = some (.ref p) ∧ H0 p = none ∧ M p = none ∧ H p = some (.ins C dx ws) ∧ IsF M fs ws
structure Ev (B : Ba) (g : Bg) (M H : Hp) (σ : L2.St) (ρ : List Slot) : Prop where
  a0 : At g B.M B.H
  st : Stp g B.M B.H M H
  ok : ∀ (i : Nat) (s : Slot), ρ[i]? = some s → ∃ o, σ[i]? = some o ∧ SlotOk B.H M H s o
  dis : ∀ (i j : Nat) (si sj : Slot) (p : Addr), ρ[i]? = some si → ρ[j]? = some sj → si.owned = true → sj.owned = true → σ[i]? = some (some (.ref p)) → σ[j]? = some (some (.ref p)) → i = j
  len : σ.length = ρ.length
section
variable {B : Ba} {g : Bg} {M H M' H' : Hp} {σ : L2.St} {ρ : List Slot} {i : Nat} {d : D} {v : V} {s : Slot} {p : Addr}
theorem Ev.at_ (E : Ev B g M H σ ρ) : At g M H := E.st.at_
theorem Ev.step (E : Ev B g M H σ ρ) (s : Stp g M H M' H') : Ev B g M' H' σ ρ := by
  refine ⟨E.a0, E.st.trans s, fun i sl e => ?_, E.dis, E.len⟩
  obtain ⟨o, h1, h2⟩ := E.ok i sl e
  refine ⟨o, h1, ?_⟩
  cases sl with
  | any => trivial
  | ro d => obtain ⟨v, e1, e2⟩ := h2; exact ⟨v, e1, e2.mono s.mm⟩
  | own ds =>
    obtain ⟨p, vs, e1, e2, e3, e4, e5⟩ := h2
    exact ⟨p, vs, e1, e2, s.fr p (some_ne e4) e3, s.hh p _ e4 (notbag E.a0 e2), e5.mono s.mm⟩
  | ownd kvs =>
    obtain ⟨p, vs, e1, e2, e3, e4, e5⟩ := h2
    exact ⟨p, vs, e1, e2, s.fr p (some_ne e4) e3, s.hh p _ e4 (notbag E.a0 e2), e5.mono s.mm⟩
  | slf p C fs =>
    obtain ⟨dx, vs, e1, e2, e3, e4, e5⟩ := h2
    exact ⟨dx, vs, e1, e2, s.fr p (some_ne e4) e3, s.hh p _ e4 (notbag E.a0 e2), e5.mono s.mm⟩
theorem set_cases {α : Type} {l : List α} {i j : Nat} {x y : α} (h : (l.set i x)[j]? = some y) : (i = j ∧ x = y) ∨ (i ≠ j ∧ l[j]? = some y) := by
  by_cases q : i = j
  · subst q
    by_cases hl : i < l.length
    · rw [List.getElem?_set_self hl] at h
      cases h
      exact .inl ⟨rfl, rfl⟩
    · rw [List.getElem?_eq_none (by simpa using hl)] at h
      cases h
  · rw [List.getElem?_set_ne q] at h
    exact .inr ⟨q, h⟩
theorem set_self {α β : Type} {l : List α} {i j : Nat} {x y : α} (h : (l.set i x)[j]? = some y) (q : i = j) {l2 : List β} (hl : l2.length = l.length) {z : β} : (l2.set i z)[j]? = some z := by
  subst q
  have : i < l.length := by
    rcases Nat.lt_or_ge i l.length with h1 | h1
    · exact h1
    · rw [List.getElem?_eq_none (by simpa using h1)] at h; cases h
  exact List.getElem?_set_self (by omega)
/-- a slot is set to what needs no care -/
theorem Ev.set0 (E : Ev B g M H σ ρ) (i : Nat) {o : Option V} (hs : s.owned = false) (h : SlotOk B.H M H s o) : Ev B g M H (σ.set i o) (ρ.set i s) := by
  refine ⟨E.a0, E.st, fun j sl e => ?_, fun j k sj sk p e1 e2 o1 o2 s1 s2 => ?_, by rw [List.length_set, List.length_set]; exact E.len⟩
  · rcases set_cases e with ⟨q, q2⟩ | ⟨q, e⟩
    · subst q2
      refine ⟨o, ?_, h⟩
      subst q
      refine List.getElem?_set_self ?_
      rcases Nat.lt_or_ge i σ.length with h1 | h1
      · exact h1
      · rw [List.getElem?_eq_none (by have := E.len; simp; omega)] at e; cases e
    · rw [List.getElem?_set_ne q]
      exact E.ok j sl e
  · rcases set_cases e1 with ⟨q, q2⟩ | ⟨q, e1⟩
    · subst q2; rw [hs] at o1; cases o1
    · rcases set_cases e2 with ⟨r, r2⟩ | ⟨r, e2⟩
      · subst r2; rw [hs] at o2; cases o2
      · rw [List.getElem?_set_ne q] at s1
        rw [List.getElem?_set_ne r] at s2
        exact E.dis j k sj sk p e1 e2 o1 o2 s1 s2
theorem Ev.ro (E : Ev B g M H σ ρ) (i : Nat) (h : Is M d v) : Ev B g M H (σ.set i (some v)) (ρ.set i (.ro d)) := E.set0 i rfl ⟨v, rfl, h⟩
def wipeR (ρ : List Slot) : List Nat → List Slot
  | [] => ρ
  | v :: vs => (wipeR ρ vs).set v .any
theorem Ev.wipe (E : Ev B g M H σ ρ) : ∀ vs : List Nat, Ev B g M H (L2.wipe σ vs) (wipeR ρ vs)
  | [] => E
  | _ :: vs => (E.wipe vs).set0 _ rfl trivial
theorem Ev.get (E : Ev B g M H σ ρ) (h : ρ[i]? = some (.ro d)) : ∃ v, σ[i]? = some (some v) ∧ Is M d v := by
  obtain ⟨o, h1, v, rfl, h2⟩ := E.ok i _ h
  exact ⟨v, h1, h2⟩
end

/-! ### the weakest readings -/
section
variable (X : Cx)
def We (e : Expr) : TE := fun σ H Q => ∀ (pins : List (Addr × Obj)) (s : Shared), Inv X pins σ H s → wpAny (model X.prog X.w) X.A (eval e X.env) (EP X pins σ Q) X.xe s
def Wt (e : Expr) : TT := fun σ H Q => ∀ (pins : List (Addr × Obj)) (s : Shared), Inv X pins σ H s → wpAny (model X.prog X.w) X.A (isTrue e X.env (eval e X.env)) (TP X pins σ Q) X.xe s
def Ww (e : Expr) : TT := fun σ H Q => ∀ (whole : Sem Value) (pins : List (Addr × Obj)) (s : Shared), Inv X pins σ H s → wpAny (model X.prog X.w) X.A (isTrue e X.env whole) (TP X pins σ Q) X.xe s
def Wa (es : List Expr) : TA := fun σ H Q => ∀ (pos : Pos) (pins : List (Addr × Obj)) (s : Shared), Inv X pins σ H s → wpAny (model X.prog X.w) X.A (spliced (backTo pos (starEach es X.env))) (AP X pins σ Q) X.xe s
def Ws (st : Stmt) : TS := fun D σ H => ∀ (pins : List (Addr × Obj)) (s : Shared), Inv X pins σ H s → wpAny (model X.prog X.w) X.A (exec st X.env) (SP X pins D) X.xe s
def Wb (sts : List Stmt) : TS := fun D σ H => ∀ (pins : List (Addr × Obj)) (s : Shared), Inv X pins σ H s → wpAny (model X.prog X.w) X.A (execs sts X.env) (SP X pins D) X.xe s
def Wi (tg iter : Expr) : TI := fun σ H R => ∀ (pins : List (Addr × Obj)) (s : Shared), Inv X pins σ H s → wpAny (model X.prog X.w) X.A (eval iter X.env) (fun v s1 => wpAny (model X.prog X.w) X.A (pyIter v) (PIE X pins σ tg R) X.xe s1) X.xe s
def Wf (ifs : List Expr) : TT := fun σ H Q => ∀ (pins : List (Addr × Obj)) (s : Shared), Inv X pins σ H s → wpAny (model X.prog X.w) X.A (forIn ifs true fun c r => if r = true then do let ok ← isTrue c X.env (eval c X.env); pure (ForInStep.yield ok) else pure (ForInStep.yield r)) (TP X pins σ Q) X.xe s
def Wg (tg : Expr) : TG := fun v σ H Q => ∀ (pins : List (Addr × Obj)) (s : Shared) (u : Value), Inv X pins σ H s → RelV v u → wpAny (model X.prog X.w) X.A (assign tg X.env u) (fun _ s' => ∃ σ' H', Inv X pins σ' H' s' ∧ Q σ' H') X.xe s
variable {X}
variable {e : Expr} {es : List Expr} {st : Stmt} {sts : List Stmt} {tg iter : Expr} {te : TE} {tt : TT} {ta : TA} {ts : TS} {ti : TI} {σ : L2.St} {H : Hp}
theorem pe_W : PE X e (We X e) := ⟨fun pins s _ _ _ I h => h pins s I⟩
theorem pt_W : PT X e (Wt X e) := ⟨fun pins s _ _ _ I h => h pins s I⟩
theorem pw_W : PW X e (Ww X e) := ⟨fun wh pins s _ _ _ I h => h wh pins s I⟩
theorem pa_W : PA X es (Wa X es) := ⟨fun pos pins s _ _ _ I h => h pos pins s I⟩
theorem ps_W : PS X st (Ws X st) := ⟨fun pins s _ _ _ I h => h pins s I⟩
theorem pss_W : PSs X sts (Wb X sts) := ⟨fun pins s _ _ _ I h => h pins s I⟩
theorem pi_W : PI X tg iter (Wi X tg iter) := ⟨fun pins s _ _ _ I h => h pins s I⟩
theorem pf_W {ifs : List Expr} : PTs X ifs (Wf X ifs) := ⟨fun pins s _ _ _ I h => h pins s I⟩
theorem pg_W : PG X tg (Wg X tg) := ⟨fun pins s _ _ _ u _ I r h => h pins s u I r⟩
theorem w_g {t : TG} (h : PG X tg t) {v : V} {Q : L2.St → Hp → Prop} (q : t v σ H Q) : Wg X tg v σ H Q := fun pins s u I r => h.run pins s σ H v u Q I r q
theorem w_e (h : PE X e te) {Q : VK} (q : te σ H Q) : We X e σ H Q := fun pins s I => h.run pins s σ H Q I q
theorem w_t (h : PT X e tt) {Q : Bool → Hp → Prop} (q : tt σ H Q) : Wt X e σ H Q := fun pins s I => h.run pins s σ H Q I q
theorem w_w (h : PW X e tt) {Q : Bool → Hp → Prop} (q : tt σ H Q) : Ww X e σ H Q := fun wh pins s I => h.run wh pins s σ H Q I q
theorem w_a (h : PA X es ta) {Q : List V → Hp → Prop} (q : ta σ H Q) : Wa X es σ H Q := fun pos pins s I => h.run pos pins s σ H Q I q
theorem w_s (h : PS X st ts) {D : Ends} (q : ts D σ H) : Ws X st D σ H := fun pins s I => h.run pins s σ H D I q
theorem w_b (h : PSs X sts ts) {D : Ends} (q : ts D σ H) : Wb X sts D σ H := fun pins s I => h.run pins s σ H D I q
theorem w_i (h : PI X tg iter ti) {R : It → Hp → Prop} (q : ti σ H R) : Wi X tg iter σ H R := fun pins s I => h.run pins s σ H R I q
theorem w_f {ifs : List Expr} (h : PTs X ifs tt) {Q : Bool → Hp → Prop} (q : tt σ H Q) : Wf X ifs σ H Q := fun pins s I => h.run pins s σ H Q I q
end

/-! ### the judgements -/
section
variable (X : Cx) (g : Bg) (ρ : List Slot)
/-- e gives a d with P d -/
structure J (e : Expr) (P : D → Prop) : Prop where
  run : ∀ (B : Ba) (σ : L2.St) (M H : Hp), Ev B g M H σ ρ → ∀ Q : VK, (∀ d v M' H', P d → Stp g M H M' H' → Is M' d v → Q v H') → We X e σ H Q
instance {e : Expr} {P : D → Prop} : CoeFun (J X g ρ e P) fun _ => (∀ (B : Ba) (σ : L2.St) (M H : Hp), Ev B g M H σ ρ → ∀ Q : VK, (∀ d v M' H', P d → Stp g M H M' H' → Is M' d v → Q v H') → We X e σ H Q) := ⟨fun h => h.run⟩
abbrev JD (e : Expr) (d : D) : Prop := J X g ρ e (fun z => z = d)
structure JT (e : Expr) (P : Bool → Prop) : Prop where
  run : ∀ (B : Ba) (σ : L2.St) (M H : Hp), Ev B g M H σ ρ → ∀ Q : Bool → Hp → Prop, (∀ b M' H', P b → Stp g M H M' H' → Q b H') → Wt X e σ H Q
instance {e : Expr} {P : Bool → Prop} : CoeFun (JT X g ρ e P) fun _ => (∀ (B : Ba) (σ : L2.St) (M H : Hp), Ev B g M H σ ρ → ∀ Q : Bool → Hp → Prop, (∀ b M' H', P b → Stp g M H M' H' → Q b H') → Wt X e σ H Q) := ⟨fun h => h.run⟩
structure JW (e : Expr) (P : Bool → Prop) : Prop where
  run : ∀ (B : Ba) (σ : L2.St) (M H : Hp), Ev B g M H σ ρ → ∀ Q : Bool → Hp → Prop, (∀ b M' H', P b → Stp g M H M' H' → Q b H') → Ww X e σ H Q
instance {e : Expr} {P : Bool → Prop} : CoeFun (JW X g ρ e P) fun _ => (∀ (B : Ba) (σ : L2.St) (M H : Hp), Ev B g M H σ ρ → ∀ Q : Bool → Hp → Prop, (∀ b M' H', P b → Stp g M H M' H' → Q b H') → Ww X e σ H Q) := ⟨fun h => h.run⟩
structure JF (ifs : List Expr) (P : Bool → Prop) : Prop where
  run : ∀ (B : Ba) (σ : L2.St) (M H : Hp), Ev B g M H σ ρ → ∀ Q : Bool → Hp → Prop, (∀ b M' H', P b → Stp g M H M' H' → Q b H') → Wf X ifs σ H Q
instance {ifs : List Expr} {P : Bool → Prop} : CoeFun (JF X g ρ ifs P) fun _ => (∀ (B : Ba) (σ : L2.St) (M H : Hp), Ev B g M H σ ρ → ∀ Q : Bool → Hp → Prop, (∀ b M' H', P b → Stp g M H M' H' → Q b H') → Wf X ifs σ H Q) := ⟨fun h => h.run⟩
structure JA (es : List Expr) (P : List D → Prop) : Prop where
  run : ∀ (B : Ba) (σ : L2.St) (M H : Hp), Ev B g M H σ ρ → ∀ Q : List V → Hp → Prop, (∀ ds vs M' H', P ds → Stp g M H M' H' → IsL M' ds vs → Q vs H') → Wa X es σ H Q
instance {es : List Expr} {P : List D → Prop} : CoeFun (JA X g ρ es P) fun _ => (∀ (B : Ba) (σ : L2.St) (M H : Hp), Ev B g M H σ ρ → ∀ Q : List V → Hp → Prop, (∀ ds vs M' H', P ds → Stp g M H M' H' → IsL M' ds vs → Q vs H') → Wa X es σ H Q) := ⟨fun h => h.run⟩
/-- what is walked: the items, one after another -/
structure JI (tg iter : Expr) (P : List D → Prop) : Prop where
  run : ∀ (B : Ba) (σ : L2.St) (M H : Hp), Ev B g M H σ ρ → ∀ R : It → Hp → Prop,
  (∀ (its : List D) (J : It) (G : Hp → Prop) (Y : Nat → Hp → V → Hp → Prop) (M' H' : Hp), P its → Stp g M H M' H' → Walk J its.length G Y → its.length ≤ 1000000 → (∀ M2 H2, Same M' M2 → At g M2 H2 → G H2) →
    (∀ i M1 H1 x H2, i < its.length → Same M' M1 → At g M1 H1 → Y i H1 x H2 → ∃ M2 d, its[i]? = some d ∧ Stp g M1 H1 M2 H2 ∧ Is M2 d x) → R J H') → Wi X tg iter σ H R
instance {tg iter : Expr} {P : List D → Prop} : CoeFun (JI X g ρ tg iter P) fun _ => (∀ (B : Ba) (σ : L2.St) (M H : Hp), Ev B g M H σ ρ → ∀ R : It → Hp → Prop,
  (∀ (its : List D) (J : It) (G : Hp → Prop) (Y : Nat → Hp → V → Hp → Prop) (M' H' : Hp), P its → Stp g M H M' H' → Walk J its.length G Y → its.length ≤ 1000000 → (∀ M2 H2, Same M' M2 → At g M2 H2 → G H2) →
    (∀ i M1 H1 x H2, i < its.length → Same M' M1 → At g M1 H1 → Y i H1 x H2 → ∃ M2 d, its[i]? = some d ∧ Stp g M1 H1 M2 H2 ∧ Is M2 d x) → R J H') → Wi X tg iter σ H R) := ⟨fun h => h.run⟩
/-- a target takes a d: the slots behind it; it touches none but the slots vs -/
structure JG (vs : List Nat) (tg : Expr) (d : D) (ρ' : List Slot) : Prop where
  run : ∀ (B : Ba) (σ : L2.St) (M H : Hp) (v : V) (Q : L2.St → Hp → Prop), Ev B g M H σ ρ → Is M d v → (∀ σ', L2.wipe σ' vs = L2.wipe σ vs → Ev B g M H σ' ρ' → Q σ' H) → Wg X tg v σ H Q
instance {vs : List Nat} {tg : Expr} {d : D} {ρ' : List Slot} : CoeFun (JG X g ρ vs tg d ρ') fun _ => (∀ (B : Ba) (σ : L2.St) (M H : Hp) (v : V) (Q : L2.St → Hp → Prop), Ev B g M H σ ρ → Is M d v → (∀ σ', L2.wipe σ' vs = L2.wipe σ vs → Ev B g M H σ' ρ' → Q σ' H) → Wg X tg v σ H Q) := ⟨fun h => h.run⟩
end
structure Po where
  R : D → Prop
  N : List Slot → Prop
  C : List Slot → Prop
  B : List Slot → Prop
/-- the ends keep the wish, from M on -/
structure Po.Of (po : Po) (g : Bg) (B : Ba) (M : Hp) (D : Ends) : Prop where
  rt : ∀ d v M' H', po.R d → Stp g B.M B.H M' H' → Is M' d v → D.rt v H'
  nx : ∀ ρ' σ' M' H', po.N ρ' → Same M M' → Ev B g M' H' σ' ρ' → D.nx σ' H'
  ct : ∀ ρ' σ' M' H', po.C ρ' → Same M M' → Ev B g M' H' σ' ρ' → D.ct σ' H'
  bk : ∀ ρ' σ' M' H', po.B ρ' → Same M M' → Ev B g M' H' σ' ρ' → D.bk σ' H'
theorem Po.Of.on {po : Po} {g : Bg} {B : Ba} {M M1 : Hp} {D : Ends} (O : po.Of g B M D) (s : Same M M1) : po.Of g B M1 D :=
  ⟨O.rt, fun ρ' σ' M' H' h t E => O.nx ρ' σ' M' H' h (s.trans t) E, fun ρ' σ' M' H' h t E => O.ct ρ' σ' M' H' h (s.trans t) E, fun ρ' σ' M' H' h t E => O.bk ρ' σ' M' H' h (s.trans t) E⟩
def S1 (X : Cx) (g : Bg) (po : Po) (ρ : List Slot) (st : Stmt) : Prop := ∀ (B : Ba) (σ : L2.St) (M H : Hp) (D : Ends), Ev B g M H σ ρ → po.Of g B M D → Ws X st D σ H
structure SS (X : Cx) (g : Bg) (po : Po) (ρ : List Slot) (sts : List Stmt) : Prop where
  run : ∀ (B : Ba) (σ : L2.St) (M H : Hp) (D : Ends), Ev B g M H σ ρ → po.Of g B M D → Wb X sts D σ H
instance {X : Cx} {g : Bg} {po : Po} {ρ : List Slot} {sts : List Stmt} : CoeFun (SS X g po ρ sts) fun _ => (∀ (B : Ba) (σ : L2.St) (M H : Hp) (D : Ends), Ev B g M H σ ρ → po.Of g B M D → Wb X sts D σ H) := ⟨fun h => h.run⟩
section
variable {X : Cx} {g : Bg} {ρ : List Slot} {e : Expr} {P P' : D → Prop}
theorem J.imp (h : J X g ρ e P) (k : ∀ d, P d → P' d) : J X g ρ e P' := .mk fun B σ M H E Q q => h B σ M H E Q fun d v M' H' p => q d v M' H' (k d p)
theorem JT.imp {P P' : Bool → Prop} (h : JT X g ρ e P) (k : ∀ d, P d → P' d) : JT X g ρ e P' := .mk fun B σ M H E Q q => h B σ M H E Q fun d M' H' p => q d M' H' (k d p)
theorem JA.imp {es : List Expr} {P P' : List D → Prop} (h : JA X g ρ es P) (k : ∀ d, P d → P' d) : JA X g ρ es P' := .mk fun B σ M H E Q q => h B σ M H E Q fun d v M' H' p => q d v M' H' (k d p)
end
end FD
end
section
set_option maxHeartbeats 2000000
/-! rules for expressions -/
namespace FD
open PySem PySem.Spec PyProof.Rows L2
/-- what follows takes every d with P d -/
abbrev Kn (g : Bg) (M H : Hp) (P : D → Prop) (Q : VK) : Prop := ∀ d v M' H', P d → Stp g M H M' H' → Is M' d v → Q v H'
def Sq (d : D) (ds : List D) : Prop := d = .lst ds ∨ d = .tup ds
section
variable {X : Cx} {g : Bg} {ρ : List Slot} {e a b c e1 e2 : Expr} {es : List Expr} {P P1 P2 P3 : D → Prop} {Ps : List D → Prop} {d d1 d2 : D} {pos p pos' : Pos} {x : Str} {te : TE} {B : Ba} {σ : L2.St} {M H M' H' : Hp} {v : V} {Q : VK} {ds : List D}
theorem Kn.to (k : Kn g M H P Q) (s : Stp g M H M' H') : Kn g M' H' P Q := fun d v M2 H2 p t => k d v M2 H2 p (s.trans t)
theorem Kn.here (k : Kn g M H P Q) (h : At g M H) (p : P d) (i : Is M d v) : Q v H := k d v M H p (Stp.refl h) i
theorem j_of (h : PE X e te) (k : ∀ (B : Ba) (σ : L2.St) (M H : Hp), Ev B g M H σ ρ → ∀ Q : VK, Kn g M H P Q → te σ H Q) : J X g ρ e P := .mk fun B σ M H E Q q => w_e h (k B σ M H E Q q)
theorem J.at_ (h : J X g ρ e P) (E : Ev B g M H σ ρ) (k : ∀ d v M' H', P d → Ev B g M' H' σ ρ → Stp g M H M' H' → Is M' d v → Q v H') : We X e σ H Q :=
  h B σ M H E Q fun d v M' H' p s i => k d v M' H' p (E.step s) s i
theorem JA.at_ {Q : List V → Hp → Prop} (h : JA X g ρ es Ps) (E : Ev B g M H σ ρ) (k : ∀ d v M' H', Ps d → Ev B g M' H' σ ρ → Stp g M H M' H' → IsL M' d v → Q v H') : Wa X es σ H Q :=
  h B σ M H E Q fun d v M' H' p s i => k d v M' H' p (E.step s) s i
theorem At.sq (h : At g M H) (i : Is M d v) (q : Sq d ds) : ∃ a vs, v = .ref a ∧ IsL M ds vs ∧ (SqL X.K H a vs ∨ SqT X.K H a vs) := by
  rcases q with rfl | rfl
  · cases i with
    | lst e l => exact ⟨_, _, rfl, l, .inl (SqL.of (h.sub _ _ e))⟩
  · cases i with
    | tup e l => exact ⟨_, _, rfl, l, .inr (SqT.of (h.sub _ _ e))⟩
/-! leaves -/
theorem j_int {i : Int} {k} : JD X g ρ (.Constant (.int i) k pos) (.int i) := j_of pe_int fun B σ M H E Q q => q.here E.at_ rfl (.int i)
theorem j_str {z : Str} {k} : JD X g ρ (.Constant (.str z) k pos) (.str z) := j_of pe_str fun B σ M H E Q q => q.here E.at_ rfl (.str z)
theorem j_bl {z : Bool} {k} : JD X g ρ (.Constant (.bool z) k pos) (.bl z) := j_of pe_bl fun B σ M H E Q q => q.here E.at_ rfl (.bl z)
theorem j_non {k} : JD X g ρ (.Constant .none k pos) .non := j_of pe_non fun B σ M H E Q q => q.here E.at_ rfl .non
theorem jv (i : Nat) (h : ρ[i]? = some (.ro d) := by rfl) (hN : X.N[i]? = some x := by rfl) (hv : Vis X.env.scope x := by first | exact Or.inl rfl | exact Or.inr (Or.inl rfl) | exact Or.inr (Or.inr rfl)) (hd : (x == ("__debug__" : Str)) = false := by decide)
    (hcd : (x == ("__classdict__" : Str)) = false := by decide) : JD X g ρ (.Name x pos) d :=
  j_of (pe_var hN hv hd hcd) fun B σ M H E Q q => let ⟨v, e, i⟩ := E.get h; ⟨v, e, q.here E.at_ rfl i⟩
theorem j_glob {u : Value} (hm : X.mg x = some u) (r : RelV v u) (hi : ∀ M, Is M d v) (hg : Gl X x := by rfl) (hd : (x == ("__debug__" : Str)) = false := by decide) : JD X g ρ (.Name x pos) d :=
  j_of (pe_glob hg hm r hd) fun B σ M H E Q q => q.here E.at_ rfl (hi M)
/-! arguments -/
theorem ja_nil : JA X g ρ [] (fun ds => ds = []) := .mk fun B σ M H E Q q => w_a pa_nil (q [] [] M H rfl (Stp.refl E.at_) .nil)
theorem ja_cons (h : J X g ρ e P) (t : JA X g ρ es Ps) (hs : starEach (e :: es) X.env = (false, eval e X.env) :: starEach es X.env := by rfl) : JA X g ρ (e :: es) (fun ds => ∃ d ds', ds = d :: ds' ∧ P d ∧ Ps ds') :=
  .mk fun B σ M H E Q q => w_a (pa_cons pe_W pa_W hs) (h.at_ E fun d v M1 H1 p E1 s1 i1 => t.at_ E1 fun ds vs M2 H2 ps E2 s2 i2 => q (d :: ds) (v :: vs) M2 H2 ⟨d, ds, rfl, p, ps⟩ (s1.trans s2) (.cons (i1.mono s2.mm) i2))
theorem ja_star (h : J X g ρ e P) (t : JA X g ρ es Ps) (hq : ∀ d, P d → ∃ ds, Sq d ds) (hs : starEach (.Starred e p :: es) X.env = (true, eval e X.env) :: starEach es X.env := by rfl) :
    JA X g ρ (.Starred e p :: es) (fun ds => ∃ d l ds', ds = l ++ ds' ∧ P d ∧ Sq d l ∧ Ps ds') :=
  .mk fun B σ M H E Q q => w_a (StX.pa_star pe_W pa_W hs) (h.at_ E fun d v M1 H1 p E1 s1 i1 => by
    obtain ⟨l, hl⟩ := hq d p
    obtain ⟨a, vs, rfl, il, hx⟩ := E1.at_.sq (X := X) i1 hl
    refine ⟨a, vs, rfl, hx.symm, ?_⟩
    exact t.at_ E1 fun ds ws M2 H2 ps E2 s2 i2 => q (l ++ ds) (vs ++ ws) M2 H2 ⟨d, l, ds, rfl, p, hl, ps⟩ (s1.trans s2) ((il.mono s2.mm).append i2))
/-- .. of known values -/
abbrev JAD (X : Cx) (g : Bg) (ρ : List Slot) (es : List Expr) (ds : List D) : Prop := JA X g ρ es (fun z => z = ds)
theorem jan : JAD X g ρ [] [] := ja_nil
theorem jac {ds : List D} (h : JD X g ρ e d) (t : JAD X g ρ es ds) (hs : starEach (e :: es) X.env = (false, eval e X.env) :: starEach es X.env := by rfl) : JAD X g ρ (e :: es) (d :: ds) :=
  (ja_cons h t hs).imp (by rintro _ ⟨_, _, rfl, rfl, rfl⟩; rfl)
theorem jas {l ds : List D} (h : JD X g ρ e d) (t : JAD X g ρ es ds) (hq : Sq d l := by first | exact Or.inl rfl | exact Or.inr rfl) (hs : starEach (.Starred e p :: es) X.env = (true, eval e X.env) :: starEach es X.env := by rfl) : JAD X g ρ (.Starred e p :: es) (l ++ ds) :=
  (ja_star h t (by rintro _ rfl; exact ⟨l, hq⟩) hs).imp (by
    rintro _ ⟨d', l', _, rfl, rfl, q, rfl⟩
    rcases hq with rfl | rfl <;> rcases q with e | e <;> cases e <;> rfl)
/-! operators by values -/
def RR (g : Bg) (r : R2) (P1 P2 P : D → Prop) : Prop := ∀ d1 d2 v1 v2 M H, P1 d1 → P2 d2 → At g M H → Is M d1 v1 → Is M d2 v2 → ∀ Q, Kn g M H P Q → r v1 v2 H Q
theorem j_op {op : Operator} {r : R2} (ho : OpR X (binaryOp op) r) (ha : J X g ρ a P1) (hb : J X g ρ b P2) (hr : RR g r P1 P2 P) : J X g ρ (.BinOp a op b pos) P :=
  j_of (pe_op ho pe_W pe_W) fun B σ M H E Q q => ha.at_ E fun d1 v1 M1 H1 p1 E1 s1 i1 => hb.at_ E1 fun d2 v2 M2 H2 p2 E2 s2 i2 => hr d1 d2 v1 v2 M2 H2 p1 p2 E2.at_ (i1.mono s2.mm) i2 Q (Kn.to q (s1.trans s2))
theorem j_cmp {op : CmpOp} {r : R2} (ho : OpR X (compareOp op) r) (ha : J X g ρ a P1) (hb : J X g ρ b P2) (hr : RR g r P1 P2 P) (hm : behindInMarks op b = false := by first | exact nobehind _ (by decide) (by decide) | rfl) : J X g ρ (.Compare a [op] [b] pos) P :=
  j_of (pe_cmpR ho pe_W pe_W hm) fun B σ M H E Q q => ha.at_ E fun d1 v1 M1 H1 p1 E1 s1 i1 => hb.at_ E1 fun d2 v2 M2 H2 p2 E2 s2 i2 => hr d1 d2 v1 v2 M2 H2 p1 p2 E2.at_ (i1.mono s2.mm) i2 Q (Kn.to q (s1.trans s2))
theorem rr_int {f : Int → Int → V} {i j : Int} {r : D} (h : ∀ M, Is M r (f i j)) : RR g (rI0 f) (fun z => z = .int i) (fun z => z = .int j) (fun z => z = r) := by
  rintro _ _ v1 v2 M H rfl rfl A i1 i2 Q k
  cases i1
  cases i2
  exact ⟨i, j, rfl, rfl, k.here A rfl (h M)⟩
theorem rr_intC {C : Int → Int → Prop} {f : Int → Int → V} {i j : Int} {r : D} (hc : C i j) (h : ∀ M, Is M r (f i j)) : RR g (rI C f) (fun z => z = .int i) (fun z => z = .int j) (fun z => z = r) := by
  rintro _ _ v1 v2 M H rfl rfl A i1 i2 Q k
  cases i1
  cases i2
  exact ⟨i, j, rfl, rfl, hc, k.here A rfl (h M)⟩
variable {i j : Int}
theorem jd_add (ha : JD X g ρ a (.int i)) (hb : JD X g ρ b (.int j)) : JD X g ρ (.BinOp a .Add b pos) (.int (i + j)) := j_op op_add ha hb (rr_int fun M => .int _)
theorem jd_sub (ha : JD X g ρ a (.int i)) (hb : JD X g ρ b (.int j)) : JD X g ρ (.BinOp a .Sub b pos) (.int (i - j)) := j_op op_sub ha hb (rr_int fun M => .int _)
theorem jd_mul (ha : JD X g ρ a (.int i)) (hb : JD X g ρ b (.int j)) (hc : CMul i j) : JD X g ρ (.BinOp a .Mult b pos) (.int (i * j)) := j_op op_mul ha hb (rr_intC hc fun M => .int _)
theorem jd_mod (ha : JD X g ρ a (.int i)) (hb : JD X g ρ b (.int j)) (hc : 0 < j) : JD X g ρ (.BinOp a .Mod b pos) (.int (i % j)) := j_op op_mod ha hb (rr_intC hc fun M => .int _)
theorem jd_lt (ha : JD X g ρ a (.int i)) (hb : JD X g ρ b (.int j)) : JD X g ρ (.Compare a [.Lt] [b] pos) (.bl (decide (i < j))) := j_cmp op_lt ha hb (rr_int fun M => .bl _)
theorem jd_le (ha : JD X g ρ a (.int i)) (hb : JD X g ρ b (.int j)) : JD X g ρ (.Compare a [.LtE] [b] pos) (.bl (decide (i ≤ j))) := j_cmp op_le ha hb (rr_int fun M => .bl _)
theorem jd_gt (ha : JD X g ρ a (.int i)) (hb : JD X g ρ b (.int j)) : JD X g ρ (.Compare a [.Gt] [b] pos) (.bl (decide (j < i))) := j_cmp op_gt ha hb (rr_int fun M => .bl _)
theorem jd_ge (ha : JD X g ρ a (.int i)) (hb : JD X g ρ b (.int j)) : JD X g ρ (.Compare a [.GtE] [b] pos) (.bl (decide (j ≤ i))) := j_cmp op_ge ha hb (rr_int fun M => .bl _)
def D.isN : D → Bool
  | .non => true
  | _ => false
theorem Is.isN (h : Is M d v) : decide (v = .non) = d.isN := by cases h <;> rfl
theorem jd_isN (ha : JD X g ρ a d) {k} : JD X g ρ (.Compare a [.Is] [.Constant .none k pos'] pos) (.bl d.isN) := j_cmp op_isN ha j_non (by
  rintro _ _ v1 v2 M H rfl rfl A i1 i2 Q k
  cases i2
  exact ⟨rfl, by rw [i1.isN]; exact k.here A rfl (.bl _)⟩)
theorem jd_notN (ha : JD X g ρ a d) {k} : JD X g ρ (.Compare a [.IsNot] [.Constant .none k pos'] pos) (.bl (!d.isN)) := j_cmp op_notN ha j_non (by
  rintro _ _ v1 v2 M H rfl rfl A i1 i2 Q k
  cases i2
  exact ⟨rfl, by rw [i1.isN]; exact k.here A rfl (.bl _)⟩)
/-! deep equality -/
mutual
def toPy : D → Option PyData
  | .non => some .none
  | .bl b => some (.bool b)
  | .int i => some (.int i)
  | .str s => some (.str s)
  | .lst ds => (toPys ds).map .list
  | .tup ds => (toPys ds).map .tuple
  | _ => none
def toPys : List D → Option (List PyData)
  | [] => some []
  | d :: ds => (toPy d).bind fun p => (toPys ds).map fun ps => p :: ps
end
mutual
theorem Is.dp {K : PySem.W.Frag} (A : At g M H) : ∀ {d : D} {v : V} {p : PyData}, Is M d v → toPy d = some p → Dp K H v p
  | _, _, p, .non, e => by cases e; exact .non
  | _, _, p, .bl b, e => by cases e; exact .bl b
  | _, _, p, .int b, e => by cases e; exact .int b
  | _, _, p, .str b, e => by cases e; exact .str b
  | _, _, p, .adr a, e => by cases e
  | _, _, p, .tup (ds := ds) h l, e => by
    simp only [toPy] at e
    cases q : toPys ds with
    | none => rw [q] at e; cases e
    | some ps => rw [q] at e; cases e; exact .tup (SqT.of (A.sub _ _ h)) (IsL.dp A l q)
  | _, _, p, .lst (ds := ds) h l, e => by
    simp only [toPy] at e
    cases q : toPys ds with
    | none => rw [q] at e; cases e
    | some ps => rw [q] at e; cases e; exact .lst (SqL.of (A.sub _ _ h)) (IsL.dp A l q)
  | _, _, p, .dic h l, e => by simp [toPy] at e
  | _, _, p, .ins h l, e => by simp [toPy] at e
theorem IsL.dp {K : PySem.W.Frag} (A : At g M H) : ∀ {ds : List D} {vs : List V} {ps : List PyData}, IsL M ds vs → toPys ds = some ps → DpAll K H vs ps
  | _, _, ps, .nil, e => by cases e; exact .nil
  | _, _, ps, .cons (d := d) (ds := ds) h t, e => by
    simp only [toPys] at e
    cases q : toPy d with
    | none => rw [q] at e; cases e
    | some p =>
      rw [q] at e
      cases r : toPys ds with
      | none => rw [r] at e; cases e
      | some ps => rw [r] at e; cases e; exact .cons (Is.dp A h q) (IsL.dp A t r)
end
theorem jd_eqD {p1 p2 : PyData} (hu : X.A.units + 64 < cLine) (ha : JD X g ρ a d1) (hb : JD X g ρ b d2) (h1 : toPy d1 = some p1) (h2 : toPy d2 = some p2) (s1 : SeqAt.shaped p1 = true) (s2 : SeqAt.shaped p2 = true) :
    JD X g ρ (.Compare a [.Eq] [b] pos) (.bl (PyData.eqv p1 p2)) := j_cmp (op_eqD hu) ha hb (by
  rintro _ _ v1 v2 M H rfl rfl A i1 i2 Q k
  exact ⟨p1, p2, i1.dp A h1, i2.dp A h2, s1, s2, k.here A rfl (.bl _)⟩)
theorem jd_neD {p1 p2 : PyData} (hu : X.A.units + 64 < cLine) (ha : JD X g ρ a d1) (hb : JD X g ρ b d2) (h1 : toPy d1 = some p1) (h2 : toPy d2 = some p2) (s1 : SeqAt.shaped p1 = true) (s2 : SeqAt.shaped p2 = true) :
    JD X g ρ (.Compare a [.NotEq] [b] pos) (.bl (!PyData.eqv p1 p2)) := j_cmp (op_neD hu) ha hb (by
  rintro _ _ v1 v2 M H rfl rfl A i1 i2 Q k
  exact ⟨p1, p2, i1.dp A h1, i2.dp A h2, s1, s2, k.here A rfl (.bl _)⟩)
end
end FD
end
section
set_option maxHeartbeats 2000000
/-! rules for expressions: sequences, texts -/
namespace FD
open PySem PySem.Spec PyProof.Rows L2
section
variable {X : Cx} {g : Bg} {ρ : List Slot} {e a b c e1 e2 : Expr} {es : List Expr} {P P1 P2 P3 : D → Prop} {Ps : List D → Prop} {d d1 d2 : D} {pos p pos' p2 : Pos} {x : Str} {te : TE} {B : Ba} {σ : L2.St} {M H M' H' : Hp} {v : V} {Q : VK} {ds ds' : List D} {s z : Str} {ss zs : List Str} {i j : Int} {n : Nat}
/-- a new thing that stands for good -/
theorem Kn.new (k : Kn g M H P Q) (h : At g M H) {q : Addr} (hq : H q = none) {o : HO} (p : P d) (i : ∀ M', Same M M' → M' q = some o → Is M' d (.ref q)) : Q (.ref q) (upd H q o) :=
  k d _ _ _ p (Stp.new h hq o) (i _ (fun b u e => by rw [upd_ne (ne_of_none e (h.freeM hq))]; exact e) upd_same)
theorem IsL.fits (l : IsL M ds vs) : vs.length = ds.length := l.length
/-! a + b -/
theorem jp_addS (ha : J X g ρ a P1) (hb : J X g ρ b P2) (h : ∀ d1 d2, P1 d1 → P2 d2 → ∃ s z, d1 = .str s ∧ d2 = .str z ∧ s.length + z.length ≤ sizeLine ∧ P (.str (s ++ z))) : J X g ρ (.BinOp a .Add b pos) P :=
  j_op op_add_str ha hb fun d1 d2 v1 v2 M H p1 p2 A i1 i2 Q k => by
    obtain ⟨s, z, rfl, rfl, hz, hp⟩ := h d1 d2 p1 p2
    cases i1
    cases i2
    exact ⟨s, z, rfl, rfl, hz, k.here A hp (.str _)⟩
theorem jp_catL (ha : J X g ρ a P1) (hb : J X g ρ b P2) (h : ∀ d1 d2, P1 d1 → P2 d2 → ∃ l m, d1 = .lst l ∧ d2 = .lst m ∧ l.length + m.length ≤ sizeLine ∧ P (.lst (l ++ m))) : J X g ρ (.BinOp a .Add b pos) P :=
  j_op op_cat ha hb fun d1 d2 v1 v2 M H p1 p2 A i1 i2 Q k => by
    obtain ⟨l, m, rfl, rfl, hz, hp⟩ := h d1 d2 p1 p2
    cases i1 with
    | lst e1 l1 =>
      cases i2 with
      | lst e2 l2 => exact ⟨_, _, _, _, rfl, rfl, A.sub _ _ e1, A.sub _ _ e2, by rw [l1.length, l2.length]; exact hz, fun q hq => k.new A hq hp fun M' s h => .lst h ((l1.append l2).mono s)⟩
theorem jp_catT (ha : J X g ρ a P1) (hb : J X g ρ b P2) (h : ∀ d1 d2, P1 d1 → P2 d2 → ∃ l m, d1 = .tup l ∧ d2 = .tup m ∧ l.length + m.length ≤ sizeLine ∧ P (.tup (l ++ m))) : J X g ρ (.BinOp a .Add b pos) P :=
  j_op op_catA ha hb fun d1 d2 v1 v2 M H p1 p2 A i1 i2 Q k => by
    obtain ⟨l, m, rfl, rfl, hz, hp⟩ := h d1 d2 p1 p2
    have j1 := i1
    have j2 := i2
    cases i1 with
    | tup e1 l1 =>
      cases i2 with
      | tup e2 l2 =>
        refine ⟨_, _, _, _, rfl, rfl, SqT.of (A.sub _ _ e1), SqT.of (A.sub _ _ e2), by rw [l1.length, l2.length]; exact hz, fun h0 => ?_, fun _ h0 => ?_, fun _ _ q hq => k.new A hq hp fun M' s h => .tup h ((l1.append l2).mono s)⟩
        · subst h0
          cases l1
          exact k.here A hp j2
        · subst h0
          cases l2
          rw [List.append_nil] at hp
          exact k.here A hp j1
theorem jd_addS (ha : JD X g ρ a (.str s)) (hb : JD X g ρ b (.str z)) (h : s.length + z.length ≤ sizeLine) : JD X g ρ (.BinOp a .Add b pos) (.str (s ++ z)) := jp_addS ha hb (by rintro _ _ rfl rfl; exact ⟨s, z, rfl, rfl, h, rfl⟩)
theorem jd_catL (ha : JD X g ρ a (.lst ds)) (hb : JD X g ρ b (.lst ds')) (h : ds.length + ds'.length ≤ sizeLine) : JD X g ρ (.BinOp a .Add b pos) (.lst (ds ++ ds')) := jp_catL ha hb (by rintro _ _ rfl rfl; exact ⟨_, _, rfl, rfl, h, rfl⟩)
theorem jd_catT (ha : JD X g ρ a (.tup ds)) (hb : JD X g ρ b (.tup ds')) (h : ds.length + ds'.length ≤ sizeLine) : JD X g ρ (.BinOp a .Add b pos) (.tup (ds ++ ds')) := jp_catT ha hb (by rintro _ _ rfl rfl; exact ⟨_, _, rfl, rfl, h, rfl⟩)
/-! displays -/
theorem jp_tup {kk} (h : JA X g ρ es Ps) (k : ∀ ds, Ps ds → ds.length ≤ sizeLine ∧ P (.tup ds)) : J X g ρ (.Tuple es kk pos) P :=
  j_of (pe_tup pa_W) fun B σ M H E Q q => h.at_ E fun ds vs M1 H1 p E1 s i => ⟨by rw [i.length]; exact (k ds p).1, fun r hr => (Kn.to q s).new E1.at_ hr (k ds p).2 fun M' s' h => .tup h (i.mono s')⟩
theorem jp_lst (h : JA X g ρ es Ps) (k : ∀ ds, Ps ds → ds.length ≤ sizeLine ∧ P (.lst ds)) : J X g ρ (.List es pos) P :=
  j_of (pe_lst pa_W) fun B σ M H E Q q => h.at_ E fun ds vs M1 H1 p E1 s i => ⟨by rw [i.length]; exact (k ds p).1, fun r hr => (Kn.to q s).new E1.at_ hr (k ds p).2 fun M' s' h => .lst h (i.mono s')⟩
theorem jd_tup {kk} (h : JAD X g ρ es ds) (hz : ds.length ≤ sizeLine := by first | exact Nat.le_trans (m := 100) (Nat.le_of_ble_eq_true rfl) (by rw [sizeLine_eq]; decide) | assumption) : JD X g ρ (.Tuple es kk pos) (.tup ds) := jp_tup h (by rintro _ rfl; exact ⟨hz, rfl⟩)
theorem jd_lst (h : JAD X g ρ es ds) (hz : ds.length ≤ sizeLine := by first | exact Nat.le_trans (m := 100) (Nat.le_of_ble_eq_true rfl) (by rw [sizeLine_eq]; decide) | assumption) : JD X g ρ (.List es pos) (.lst ds) := jp_lst h (by rintro _ rfl; exact ⟨hz, rfl⟩)
/-! x[i] -/
theorem jp_ix (ha : J X g ρ a P1) (hb : J X g ρ b P2) (h : ∀ d1 d2, P1 d1 → P2 d2 → ∃ l i r, Sq d1 l ∧ d2 = .int i ∧ atI l i = some r ∧ P r) (hs : PlainIx b := by intro _ _; rfl) : J X g ρ (.Subscript a b pos) P :=
  j_of (pe_ix ix_seq pe_W pe_W hs) fun B σ M H E Q q => ha.at_ E fun d1 v1 M1 H1 p1 E1 s1 i1 => hb.at_ E1 fun d2 v2 M2 H2 p2 E2 s2 i2 => by
    obtain ⟨l, i, r, hq, rfl, hi, hp⟩ := h d1 d2 p1 p2
    cases i2
    obtain ⟨ad, vs, rfl, il, hx⟩ := E2.at_.sq (X := X) (i1.mono s2.mm) hq
    have hv : ∃ v, atI vs i = some v ∧ Is M2 r v := by
      unfold atI at hi ⊢
      rw [il.length]
      cases q : ixN l.length i with
      | none => rw [q] at hi; cases hi
      | some j =>
        rw [q] at hi
        obtain ⟨v, e, iv⟩ := il.get (i := j) (d := r) hi
        exact ⟨v, e, iv⟩
    obtain ⟨v, e, iv⟩ := hv
    have := (Kn.to q (s1.trans s2)).here E2.at_ hp iv
    rcases hx with hx | hx
    · exact .inl ⟨ad, vs, i, v, rfl, rfl, hx, e, this⟩
    · exact .inr (.inl ⟨ad, vs, i, v, rfl, rfl, hx, e, this⟩)
theorem jd_ix (ha : JD X g ρ a d1) (hb : JD X g ρ b (.int i)) {r : D} (hi : atI ds i = some r) (hq : Sq d1 ds := by first | exact Or.inl rfl | exact Or.inr rfl) (hs : PlainIx b := by intro _ _; rfl) : JD X g ρ (.Subscript a b pos) r :=
  jp_ix ha hb (by rintro _ _ rfl rfl; exact ⟨ds, i, r, hq, rfl, hi, rfl⟩) hs
theorem jd_ixS {k : Nat} (ha : JD X g ρ a (.str s)) (hb : JD X g ρ b (.int i)) (hz : s.length ≤ sizeLine) (hi : atI s.cps.toList i = some k) (hs : PlainIx b := by intro _ _; rfl) : JD X g ρ (.Subscript a b pos) (.str ⟨#[k]⟩) :=
  j_of (pe_ix ix_seq pe_W pe_W hs) fun B σ M H E Q q => ha.at_ E fun d1 v1 M1 H1 p1 E1 s1 i1 => hb.at_ E1 fun d2 v2 M2 H2 p2 E2 s2 i2 => by
    subst p1 p2
    cases i1
    cases i2
    exact .inr (.inr ⟨s, i, k, rfl, rfl, hz, hi, (Kn.to q (s1.trans s2)).here E2.at_ rfl (.str _)⟩)
/-! x[lo:hi] -/
def JO (X : Cx) (g : Bg) (ρ : List Slot) (e : Option Expr) (P : Option Int → Prop) : Prop := ∃ t : TO, PO X e t ∧ ∀ (B : Ba) (σ : L2.St) (M H : Hp), Ev B g M H σ ρ → ∀ Q : Option Int → Hp → Prop, (∀ o M' H', P o → Stp g M H M' H' → Q o H') → t σ H Q
theorem jo_none : JO X g ρ none (fun o => o = none) := ⟨_, po_none, fun B σ M H E Q q => q none M H rfl (Stp.refl E.at_)⟩
theorem jo_some {Pi : Int → Prop} (h : J X g ρ e P) (k : ∀ d, P d → ∃ i, d = .int i ∧ Pi i) : JO X g ρ (some e) (fun o => ∃ i, o = some i ∧ Pi i) :=
  ⟨_, po_some pe_W, fun B σ M H E Q q => h.at_ E fun d v M1 H1 p E1 s i => by
    obtain ⟨n, rfl, hn⟩ := k d p
    cases i
    exact ⟨n, rfl, q _ _ _ ⟨n, rfl, hn⟩ s⟩⟩
abbrev JOD (X : Cx) (g : Bg) (ρ : List Slot) (e : Option Expr) (o : Option Int) : Prop := JO X g ρ e (fun z => z = o)
theorem jon : JOD X g ρ none none := jo_none
theorem jos (h : JD X g ρ e (.int i)) : JOD X g ρ (some e) (some i) := by
  obtain ⟨t, h1, h2⟩ := jo_some (Pi := fun z => z = i) h (by rintro _ rfl; exact ⟨i, rfl, rfl⟩)
  exact ⟨t, h1, fun B σ M H E Q q => h2 B σ M H E Q (by rintro _ M' H' ⟨_, rfl, rfl⟩; exact q _ M' H' rfl)⟩
def cutD (xs : List D) (lo hi : Option Int) : List D := (xs.drop (HT.sIx xs.length 0 lo)).take (HT.sIx xs.length xs.length hi - HT.sIx xs.length 0 lo)
theorem IsL.cut {vs : List V} (l : IsL M ds vs) (lo hi : Option Int) : IsL M (cutD ds lo hi) (cutV vs lo hi) := by
  unfold cutD cutV
  rw [l.length]
  exact (l.drop _).take _
theorem cutD_all {lo hi : Option Int} (h : HT.sIx ds.length 0 lo = 0 ∧ HT.sIx ds.length ds.length hi = ds.length) : cutD ds lo hi = ds := by
  unfold cutD
  rw [h.1, h.2, List.drop_zero, Nat.sub_zero, List.take_length]
variable {lo hi : Option Expr} {Pl Ph : Option Int → Prop} {ol oh : Option Int}
theorem jp_slL (ha : J X g ρ a P1) (hl : JO X g ρ lo Pl) (hh : JO X g ρ hi Ph) (h : ∀ d o u, P1 d → Pl o → Ph u → ∃ l, d = .lst l ∧ P (.lst (cutD l o u))) : J X g ρ (.Subscript a (.Slice lo hi none p2) pos) P := by
  obtain ⟨tl, l1, l2⟩ := hl
  obtain ⟨th, h1, h2⟩ := hh
  refine j_of (pe_slice sl_list pe_W l1 h1) fun B σ M H E Q q => ha.at_ E fun d1 v1 M1 H1 p1 E1 s1 i1 => l2 B σ M1 H1 E1 _ fun o M2 H2 po s2 => h2 B σ M2 H2 (E1.step s2) _ fun u M3 H3 pu s3 => ?_
  obtain ⟨l, rfl, hp⟩ := h d1 o u p1 po pu
  have E3 := (E1.step s2).step s3
  cases i1 with
  | lst e il =>
    exact ⟨_, _, rfl, SqL.of (E3.at_.sub _ _ (s3.mm _ _ (s2.mm _ _ e))), fun r hr => (Kn.to q ((s1.trans s2).trans s3)).new E3.at_ hr hp fun M' s' h => .lst h ((((il.mono s2.mm).mono s3.mm).mono s').cut o u)⟩
theorem jp_slT (ha : J X g ρ a P1) (hl : JO X g ρ lo Pl) (hh : JO X g ρ hi Ph) (h : ∀ d o u, P1 d → Pl o → Ph u → ∃ l, d = .tup l ∧ P (.tup (cutD l o u))) : J X g ρ (.Subscript a (.Slice lo hi none p2) pos) P := by
  obtain ⟨tl, l1, l2⟩ := hl
  obtain ⟨th, h1, h2⟩ := hh
  refine j_of (pe_slice sl_tupA pe_W l1 h1) fun B σ M H E Q q => ha.at_ E fun d1 v1 M1 H1 p1 E1 s1 i1 => l2 B σ M1 H1 E1 _ fun o M2 H2 po s2 => h2 B σ M2 H2 (E1.step s2) _ fun u M3 H3 pu s3 => ?_
  obtain ⟨l, rfl, hp⟩ := h d1 o u p1 po pu
  have E3 := (E1.step s2).step s3
  have i3 := (i1.mono s2.mm).mono s3.mm
  cases i1 with
  | tup e il =>
    refine ⟨_, _, rfl, SqT.of (E3.at_.sub _ _ (s3.mm _ _ (s2.mm _ _ e))), fun hw => ?_, fun _ r hr => (Kn.to q ((s1.trans s2).trans s3)).new E3.at_ hr hp fun M' s' h => .tup h ((((il.mono s2.mm).mono s3.mm).mono s').cut o u)⟩
    rw [il.length] at hw
    rw [cutD_all hw] at hp
    exact (Kn.to q ((s1.trans s2).trans s3)).here E3.at_ hp i3
theorem jp_slS (ha : J X g ρ a P1) (hl : JO X g ρ lo Pl) (hh : JO X g ρ hi Ph) (h : ∀ d o u, P1 d → Pl o → Ph u → ∃ s, d = .str s ∧ s.length ≤ sizeLine ∧ P (.str (cutS s o u))) : J X g ρ (.Subscript a (.Slice lo hi none p2) pos) P := by
  obtain ⟨tl, l1, l2⟩ := hl
  obtain ⟨th, h1, h2⟩ := hh
  refine j_of (pe_slice sl_str pe_W l1 h1) fun B σ M H E Q q => ha.at_ E fun d1 v1 M1 H1 p1 E1 s1 i1 => l2 B σ M1 H1 E1 _ fun o M2 H2 po s2 => h2 B σ M2 H2 (E1.step s2) _ fun u M3 H3 pu s3 => ?_
  obtain ⟨l, rfl, hz, hp⟩ := h d1 o u p1 po pu
  cases i1
  exact ⟨l, rfl, hz, (Kn.to q ((s1.trans s2).trans s3)).here ((E1.step s2).step s3).at_ hp (.str _)⟩
theorem jd_slL (ha : JD X g ρ a (.lst ds)) (hl : JOD X g ρ lo ol) (hh : JOD X g ρ hi oh) : JD X g ρ (.Subscript a (.Slice lo hi none p2) pos) (.lst (cutD ds ol oh)) := jp_slL ha hl hh (by rintro _ _ _ rfl rfl rfl; exact ⟨_, rfl, rfl⟩)
theorem jd_slT (ha : JD X g ρ a (.tup ds)) (hl : JOD X g ρ lo ol) (hh : JOD X g ρ hi oh) : JD X g ρ (.Subscript a (.Slice lo hi none p2) pos) (.tup (cutD ds ol oh)) := jp_slT ha hl hh (by rintro _ _ _ rfl rfl rfl; exact ⟨_, rfl, rfl⟩)
theorem jd_slS (ha : JD X g ρ a (.str s)) (hl : JOD X g ρ lo ol) (hh : JOD X g ρ hi oh) (hz : s.length ≤ sizeLine) : JD X g ρ (.Subscript a (.Slice lo hi none p2) pos) (.str (cutS s ol oh)) := jp_slS ha hl hh (by rintro _ _ _ rfl rfl rfl; exact ⟨_, rfl, hz, rfl⟩)
theorem jp_back {k : Nat} {p1 p3 : Pos} (h : J X g ρ e P1) (hk : ∀ d, P1 d → (∃ l, d = .lst l ∧ P (.lst l.reverse)) ∨ ∃ y z, d = .tup [y, z] ∧ P (.tup [z, y])) :
    J X g ρ (.Subscript e (.Slice none none (some (.UnaryOp .USub (.Constant (.int 1) k p1) p2)) p3) pos) P :=
  j_of (pe_back pe_W) fun B σ M H E Q q => h.at_ E fun d v M1 H1 p E1 s i => by
    rcases hk d p with ⟨l, rfl, hp⟩ | ⟨y, z, rfl, hp⟩
    · cases i with
      | lst e il => exact ⟨_, rfl, .inl ⟨_, SqL.of (E1.at_.sub _ _ e), fun r hr => (Kn.to q s).new E1.at_ hr hp fun M' s' h => .lst h (il.mono s').reverse⟩⟩
    · cases i with
      | tup e il =>
        cases il with
        | cons hy t =>
          cases t with
          | cons hz t =>
            cases t
            exact ⟨_, rfl, .inr ⟨_, _, SqT.of (E1.at_.sub _ _ e), fun r hr => (Kn.to q s).new E1.at_ hr hp fun M' s' h => .tup h (.cons (hz.mono s') (.cons (hy.mono s') .nil))⟩⟩
end
end FD
end
section
set_option maxHeartbeats 2000000
/-! rules for comparisons, tests, conditions -/
namespace FD
open PySem PySem.Spec PyProof.Rows L2
section
variable {X : Cx} {g : Bg} {ρ : List Slot} {e a b c e1 e2 : Expr} {es rest : List Expr} {P P1 P2 P3 : D → Prop} {Ps : List D → Prop} {d d1 d2 : D} {pos p pos' p2 : Pos} {x : Str} {te : TE} {B : Ba} {σ : L2.St} {M H M' H' : Hp} {v : V} {Q : VK} {ds ds' : List D} {s z : Str} {ss zs : List Str} {i j : Int} {n : Nat} {Pb Pc : Bool → Prop} {u w : Bool} {kvs : List (Str × D)} {ws : List (Key × V)}
abbrev JTD (X : Cx) (g : Bg) (ρ : List Slot) (e : Expr) (b : Bool) : Prop := JT X g ρ e (fun z => z = b)
abbrev JWD (X : Cx) (g : Bg) (ρ : List Slot) (e : Expr) (b : Bool) : Prop := JW X g ρ e (fun z => z = b)
theorem ff_of {b : Bool} (h : ¬ b = true) : b = false := by cases b <;> simp_all
theorem jt_of {t : TT} (h : PT X e t) (k : ∀ (B : Ba) (σ : L2.St) (M H : Hp), Ev B g M H σ ρ → ∀ Q : Bool → Hp → Prop, (∀ b M' H', Pb b → Stp g M H M' H' → Q b H') → t σ H Q) : JT X g ρ e Pb := .mk fun B σ M H E Q q => w_t h (k B σ M H E Q q)
theorem JT.at_ {Q : Bool → Hp → Prop} (h : JT X g ρ e Pb) (E : Ev B g M H σ ρ) (k : ∀ b M' H', Pb b → Ev B g M' H' σ ρ → Stp g M H M' H' → Q b H') : Wt X e σ H Q := h B σ M H E Q fun d M' H' p s => k d M' H' p (E.step s) s
theorem JW.at_ {Q : Bool → Hp → Prop} (h : JW X g ρ e Pb) (E : Ev B g M H σ ρ) (k : ∀ b M' H', Pb b → Ev B g M' H' σ ρ → Stp g M H M' H' → Q b H') : Ww X e σ H Q := h B σ M H E Q fun d M' H' p s => k d M' H' p (E.step s) s
theorem jt_cmp {op : CmpOp} {r : R2} (ho : OpR X (compareOp op) r) (ha : J X g ρ a P1) (hb : J X g ρ b P2) (hr : RR g r P1 P2 (fun d => ∃ k, d = .bl k ∧ Pb k)) (hm : behindInMarks op b = false := by first | exact nobehind _ (by decide) (by decide) | rfl) : JT X g ρ (.Compare a [op] [b] pos) Pb :=
  jt_of (pt_cmpR ho pe_W pe_W hm) fun B σ M H E Q q => ha.at_ E fun d1 v1 M1 H1 p1 E1 s1 i1 => hb.at_ E1 fun d2 v2 M2 H2 p2 E2 s2 i2 => hr d1 d2 v1 v2 M2 H2 p1 p2 E2.at_ (i1.mono s2.mm) i2 _ (by
    rintro _ v M3 H3 ⟨k, rfl, hk⟩ s3 i3
    cases i3
    exact ⟨k, rfl, q k M3 H3 hk ((s1.trans s2).trans s3)⟩)
/-- a value's rule as a test's -/
theorem RR.tb {r : R2} (h : RR g r P1 P2 (fun z => z = .bl u)) : RR g r P1 P2 (fun d => ∃ k, d = .bl k ∧ k = u) := fun d1 d2 v1 v2 M H p1 p2 A i1 i2 Q k => h d1 d2 v1 v2 M H p1 p2 A i1 i2 Q fun d v M' H' e s i => k d v M' H' ⟨u, e, rfl⟩ s i
theorem rr_eqD {p1 p2 : PyData} (h1 : toPy d1 = some p1) (h2 : toPy d2 = some p2) (s1 : SeqAt.shaped p1 = true) (s2 : SeqAt.shaped p2 = true) : RR g (rEqD X.K) (fun z => z = d1) (fun z => z = d2) (fun z => z = .bl (PyData.eqv p1 p2)) := by
  rintro _ _ v1 v2 M H rfl rfl A i1 i2 Q k
  exact ⟨p1, p2, i1.dp A h1, i2.dp A h2, s1, s2, k.here A rfl (.bl _)⟩
theorem rr_neD {p1 p2 : PyData} (h1 : toPy d1 = some p1) (h2 : toPy d2 = some p2) (s1 : SeqAt.shaped p1 = true) (s2 : SeqAt.shaped p2 = true) : RR g (rNeD X.K) (fun z => z = d1) (fun z => z = d2) (fun z => z = .bl (!PyData.eqv p1 p2)) := by
  rintro _ _ v1 v2 M H rfl rfl A i1 i2 Q k
  exact ⟨p1, p2, i1.dp A h1, i2.dp A h2, s1, s2, k.here A rfl (.bl _)⟩
theorem jt_eqD {p1 p2 : PyData} (hu : X.A.units + 64 < cLine) (ha : JD X g ρ a d1) (hb : JD X g ρ b d2) (h1 : toPy d1 = some p1) (h2 : toPy d2 = some p2) (s1 : SeqAt.shaped p1 = true) (s2 : SeqAt.shaped p2 = true) :
    JTD X g ρ (.Compare a [.Eq] [b] pos) (PyData.eqv p1 p2) := jt_cmp (op_eqD hu) ha hb (rr_eqD h1 h2 s1 s2).tb
theorem jt_neD {p1 p2 : PyData} (hu : X.A.units + 64 < cLine) (ha : JD X g ρ a d1) (hb : JD X g ρ b d2) (h1 : toPy d1 = some p1) (h2 : toPy d2 = some p2) (s1 : SeqAt.shaped p1 = true) (s2 : SeqAt.shaped p2 = true) :
    JTD X g ρ (.Compare a [.NotEq] [b] pos) (!PyData.eqv p1 p2) := jt_cmp (op_neD hu) ha hb (rr_neD h1 h2 s1 s2).tb
theorem jt_lt (ha : JD X g ρ a (.int i)) (hb : JD X g ρ b (.int j)) : JTD X g ρ (.Compare a [.Lt] [b] pos) (decide (i < j)) := jt_cmp op_lt ha hb (rr_int (r := .bl _) fun M => Is.bl _).tb
theorem jt_le (ha : JD X g ρ a (.int i)) (hb : JD X g ρ b (.int j)) : JTD X g ρ (.Compare a [.LtE] [b] pos) (decide (i ≤ j)) := jt_cmp op_le ha hb (rr_int (r := .bl _) fun M => Is.bl _).tb
theorem jt_gt (ha : JD X g ρ a (.int i)) (hb : JD X g ρ b (.int j)) : JTD X g ρ (.Compare a [.Gt] [b] pos) (decide (j < i)) := jt_cmp op_gt ha hb (rr_int (r := .bl _) fun M => Is.bl _).tb
theorem jt_ge (ha : JD X g ρ a (.int i)) (hb : JD X g ρ b (.int j)) : JTD X g ρ (.Compare a [.GtE] [b] pos) (decide (j ≤ i)) := jt_cmp op_ge ha hb (rr_int (r := .bl _) fun M => Is.bl _).tb
/-- flat things -/
theorem beq_dec {α : Type} [DecidableEq α] {x y : α} : (x == y) = decide (x = y) := by
  rw [Bool.eq_iff_iff]
  simp
theorem rr_sc {v1 v2 : V} (h1 : ∀ M v, Is M d1 v → v = v1) (h2 : ∀ M v, Is M d2 v → v = v2) (hs : scal v1 v2 = true) : RR g rEq (fun z => z = d1) (fun z => z = d2) (fun z => z = .bl (decide (v1 = v2))) := by
  rintro _ _ w1 w2 M H rfl rfl A i1 i2 Q k
  rw [h1 _ _ i1, h2 _ _ i2]
  exact ⟨hs, k.here A rfl (.bl _)⟩
theorem rr_scN {v1 v2 : V} (h1 : ∀ M v, Is M d1 v → v = v1) (h2 : ∀ M v, Is M d2 v → v = v2) (hs : scal v1 v2 = true) : RR g rNe (fun z => z = d1) (fun z => z = d2) (fun z => z = .bl (!decide (v1 = v2))) := by
  rintro _ _ w1 w2 M H rfl rfl A i1 i2 Q k
  rw [h1 _ _ i1, h2 _ _ i2]
  exact ⟨hs, k.here A rfl (.bl _)⟩
theorem is_int (M : Hp) (v : V) (h : Is M (.int i) v) : v = .int i := by cases h; rfl
theorem is_str (M : Hp) (v : V) (h : Is M (.str s) v) : v = .str s := by cases h; rfl
theorem is_bl (M : Hp) (v : V) (h : Is M (.bl u) v) : v = .bl u := by cases h; rfl
theorem is_non (M : Hp) (v : V) (h : Is M .non v) : v = .non := by cases h; rfl
theorem di : decide (V.int i = V.int j) = decide (i = j) := by simp
theorem ds_ : decide (V.str s = V.str z) = decide (s = z) := by simp
theorem db_ : decide (V.bl u = V.bl w) = decide (u = w) := by simp
theorem jt_eqI (ha : JD X g ρ a (.int i)) (hb : JD X g ρ b (.int j)) : JTD X g ρ (.Compare a [.Eq] [b] pos) (decide (i = j)) := jt_cmp op_eq ha hb (di (i := i) ▸ rr_sc is_int is_int rfl).tb
theorem jt_neI (ha : JD X g ρ a (.int i)) (hb : JD X g ρ b (.int j)) : JTD X g ρ (.Compare a [.NotEq] [b] pos) (!decide (i = j)) := jt_cmp op_ne ha hb (di (i := i) ▸ rr_scN is_int is_int rfl).tb
theorem jt_eqS (ha : JD X g ρ a (.str s)) (hb : JD X g ρ b (.str z)) : JTD X g ρ (.Compare a [.Eq] [b] pos) (decide (s = z)) := jt_cmp op_eq ha hb (ds_ (s := s) ▸ rr_sc is_str is_str rfl).tb
theorem jt_neS (ha : JD X g ρ a (.str s)) (hb : JD X g ρ b (.str z)) : JTD X g ρ (.Compare a [.NotEq] [b] pos) (!decide (s = z)) := jt_cmp op_ne ha hb (ds_ (s := s) ▸ rr_scN is_str is_str rfl).tb
theorem jt_neB (ha : JD X g ρ a (.bl u)) (hb : JD X g ρ b (.bl w)) : JTD X g ρ (.Compare a [.NotEq] [b] pos) (!decide (u = w)) := jt_cmp op_ne ha hb (db_ (u := u) ▸ rr_scN is_bl is_bl rfl).tb
theorem jd_eqI (ha : JD X g ρ a (.int i)) (hb : JD X g ρ b (.int j)) : JD X g ρ (.Compare a [.Eq] [b] pos) (.bl (decide (i = j))) := j_cmp op_eq ha hb (di (i := i) ▸ rr_sc is_int is_int rfl)
theorem jd_eqS (ha : JD X g ρ a (.str s)) (hb : JD X g ρ b (.str z)) : JD X g ρ (.Compare a [.Eq] [b] pos) (.bl (decide (s = z))) := j_cmp op_eq ha hb (ds_ (s := s) ▸ rr_sc is_str is_str rfl)
theorem jd_eqB (ha : JD X g ρ a (.bl u)) (hb : JD X g ρ b (.bl w)) : JD X g ρ (.Compare a [.Eq] [b] pos) (.bl (decide (u = w))) := j_cmp op_eq ha hb (db_ (u := u) ▸ rr_sc is_bl is_bl rfl)
/-! lists of texts -/
theorem toPys_strs : ∀ ss : List Str, toPys (ss.map D.str) = some (ss.map PyData.str)
  | [] => rfl
  | s :: ss => by simp [toPys, toPy, toPys_strs ss]
theorem toPys_ints : ∀ ss : List Int, toPys (ss.map D.int) = some (ss.map PyData.int)
  | [] => rfl
  | s :: ss => by simp [toPys, toPy, toPys_ints ss]
theorem eqvAll_strs : ∀ ss zs : List Str, PyData.eqvAll (ss.map PyData.str) (zs.map PyData.str) = decide (ss = zs)
  | [], [] => rfl
  | [], _ :: _ => rfl
  | _ :: _, [] => rfl
  | s :: ss, z :: zs => by
    have ih := eqvAll_strs ss zs
    simp only [List.map_cons, PyData.eqvAll, ih, PyData.eqv, beq_dec, List.cons.injEq]
    by_cases h1 : s = z <;> by_cases h2 : ss = zs <;> simp [h1, h2]
theorem eqvAll_ints : ∀ ss zs : List Int, PyData.eqvAll (ss.map PyData.int) (zs.map PyData.int) = decide (ss = zs)
  | [], [] => rfl
  | [], _ :: _ => rfl
  | _ :: _, [] => rfl
  | s :: ss, z :: zs => by
    have ih := eqvAll_ints ss zs
    simp only [List.map_cons, PyData.eqvAll, ih, PyData.eqv, beq_dec, List.cons.injEq]
    by_cases h1 : s = z <;> by_cases h2 : ss = zs <;> simp [h1, h2]

/-- texts that compare -/
def SOk (ss : List Str) : Prop := ∀ s ∈ ss, PyData.strOk s = true
theorem canLay_strs : ∀ {ss : List Str}, SOk ss → PyData.canLayAll0 (ss.map PyData.str) = true
  | [], _ => rfl
  | s :: ss, h => by
    rw [List.map_cons]
    simp only [PyData.canLayAll0, PyData.canLay0, h s List.mem_cons_self, canLay_strs fun z hz => h z (List.mem_cons_of_mem _ hz), Bool.and_self]
theorem canLay_ints : ∀ {ss : List Int}, PyData.canLayAll0 (ss.map PyData.int) = true
  | [] => rfl
  | s :: ss => by
    rw [List.map_cons]
    simp only [PyData.canLayAll0, PyData.canLay0, canLay_ints, Bool.and_self]
theorem depth_strs : ∀ {ss : List Str}, PyData.depthAll (ss.map PyData.str) = 0
  | [] => rfl
  | s :: ss => by
    rw [List.map_cons]
    simp only [PyData.depthAll, PyData.depth, depth_strs, Nat.max_self]
theorem depth_ints : ∀ {ss : List Int}, PyData.depthAll (ss.map PyData.int) = 0
  | [] => rfl
  | s :: ss => by
    rw [List.map_cons]
    simp only [PyData.depthAll, PyData.depth, depth_ints, Nat.max_self]
theorem shaped_strsL (h : SOk ss) : SeqAt.shaped (.list (ss.map PyData.str)) = true := by
  simp only [SeqAt.shaped, PyData.canLay0, canLay_strs h, PyData.depth, depth_strs]
  rfl
theorem shaped_strsT (h : SOk ss) : SeqAt.shaped (.tuple (ss.map PyData.str)) = true := by
  simp only [SeqAt.shaped, PyData.canLay0, canLay_strs h, PyData.depth, depth_strs]
  rfl
theorem shaped_intsL {ss : List Int} : SeqAt.shaped (.list (ss.map PyData.int)) = true := by
  simp only [SeqAt.shaped, PyData.canLay0, canLay_ints, PyData.depth, depth_ints]
  rfl
theorem toPy_strsL : toPy (.lst (ss.map D.str)) = some (.list (ss.map PyData.str)) := by simp [toPy, toPys_strs]
theorem toPy_strsT : toPy (.tup (ss.map D.str)) = some (.tuple (ss.map PyData.str)) := by simp [toPy, toPys_strs]
theorem toPy_intsL {ss : List Int} : toPy (.lst (ss.map D.int)) = some (.list (ss.map PyData.int)) := by simp [toPy, toPys_ints]
theorem eqv_strsL : PyData.eqv (.list (ss.map PyData.str)) (.list (zs.map PyData.str)) = decide (ss = zs) := by simp only [PyData.eqv, eqvAll_strs]
theorem eqv_strsT : PyData.eqv (.tuple (ss.map PyData.str)) (.tuple (zs.map PyData.str)) = decide (ss = zs) := by simp only [PyData.eqv, eqvAll_strs]
theorem jd_eqSL (hu : X.A.units + 64 < cLine) (ha : JD X g ρ a (.lst (ss.map D.str))) (hb : JD X g ρ b (.lst (zs.map D.str))) (h1 : SOk ss) (h2 : SOk zs) : JD X g ρ (.Compare a [.Eq] [b] pos) (.bl (decide (ss = zs))) :=
  eqv_strsL ▸ jd_eqD hu ha hb toPy_strsL toPy_strsL (shaped_strsL h1) (shaped_strsL h2)
theorem jd_eqST (hu : X.A.units + 64 < cLine) (ha : JD X g ρ a (.tup (ss.map D.str))) (hb : JD X g ρ b (.tup (zs.map D.str))) (h1 : SOk ss) (h2 : SOk zs) : JD X g ρ (.Compare a [.Eq] [b] pos) (.bl (decide (ss = zs))) :=
  eqv_strsT ▸ jd_eqD hu ha hb toPy_strsT toPy_strsT (shaped_strsT h1) (shaped_strsT h2)
theorem jt_neST (hu : X.A.units + 64 < cLine) (ha : JD X g ρ a (.tup (ss.map D.str))) (hb : JD X g ρ b (.tup (zs.map D.str))) (h1 : SOk ss) (h2 : SOk zs) : JTD X g ρ (.Compare a [.NotEq] [b] pos) (!decide (ss = zs)) :=
  eqv_strsT ▸ jt_neD hu ha hb toPy_strsT toPy_strsT (shaped_strsT h1) (shaped_strsT h2)
/-! == [], != [], == ((), ()), .. : a thing that is empty -/
def D.nil : D → Bool
  | .lst [] => true
  | .tup [] => true
  | _ => false
/-! in -/
def D.flat : D → Bool
  | .non => true
  | .bl _ => true
  | .int _ => true
  | .str _ => true
  | _ => false
theorem flat_strs : (ss.map V.str).all flatV = true := by
  rw [List.all_eq_true]
  intro v hv
  obtain ⟨s, _, rfl⟩ := List.mem_map.mp hv
  rfl
theorem inV_strs : inV (.str s) (ss.map V.str) = decide (s ∈ ss) := by
  rw [Bool.eq_iff_iff]
  simp only [inV, List.any_map, List.any_eq_true, decide_eq_true_eq]
  constructor
  · rintro ⟨z, hz, e⟩
    have : (z == s) = true := e
    rw [beq_iff_eq.mp this] at hz
    exact hz
  · intro h
    exact ⟨s, h, beq_iff_eq.mpr rfl⟩
theorem rr_inS {neg : Bool} (hq : Sq d2 (ss.map D.str)) : RR g (rIn X.K neg) (fun z => z = .str s) (fun z => z = d2) (fun z => z = .bl (if neg then !decide (s ∈ ss) else decide (s ∈ ss))) := by
  rintro _ _ v1 v2 M H rfl rfl A i1 i2 Q k
  cases i1
  obtain ⟨p, vs, rfl, il, hx⟩ := A.sq (X := X) i2 hq
  obtain rfl := il.strs
  exact ⟨p, _, rfl, hx, rfl, flat_strs, by rw [inV_strs]; exact k.here A rfl (.bl _)⟩
theorem jd_inS (ha : JD X g ρ a (.str s)) (hb : JD X g ρ b d2) (hq : Sq d2 (ss.map D.str) := by first | exact Or.inl rfl | exact Or.inr rfl) (hm : behindInMarks .In b = false := by rfl) : JD X g ρ (.Compare a [.In] [b] pos) (.bl (decide (s ∈ ss))) := j_cmp op_in_seq ha hb (rr_inS hq) hm
theorem jd_ninS (ha : JD X g ρ a (.str s)) (hb : JD X g ρ b d2) (hq : Sq d2 (ss.map D.str) := by first | exact Or.inl rfl | exact Or.inr rfl) (hm : behindInMarks .NotIn b = false := by rfl) : JD X g ρ (.Compare a [.NotIn] [b] pos) (.bl (!decide (s ∈ ss))) := j_cmp op_notIn_seq ha hb (rr_inS hq) hm
theorem jt_inS (ha : JD X g ρ a (.str s)) (hb : JD X g ρ b d2) (hq : Sq d2 (ss.map D.str) := by first | exact Or.inl rfl | exact Or.inr rfl) (hm : behindInMarks .In b = false := by rfl) : JTD X g ρ (.Compare a [.In] [b] pos) (decide (s ∈ ss)) := jt_cmp op_in_seq ha hb (rr_inS (X := X) (neg := false) hq).tb hm
theorem jt_ninS (ha : JD X g ρ a (.str s)) (hb : JD X g ρ b d2) (hq : Sq d2 (ss.map D.str) := by first | exact Or.inl rfl | exact Or.inr rfl) (hm : behindInMarks .NotIn b = false := by rfl) : JTD X g ρ (.Compare a [.NotIn] [b] pos) (!decide (s ∈ ss)) := jt_cmp op_notIn_seq ha hb (rr_inS (X := X) (neg := true) hq).tb hm
theorem jd_inC {k : Nat} (ha : JD X g ρ a (.str ⟨#[k]⟩)) (hb : JD X g ρ b (.str z)) (hm : behindInMarks .In b = false := by rfl) : JD X g ρ (.Compare a [.In] [b] pos) (.bl (decide (k ∈ z.cps.toList))) := j_cmp op_in_sign ha hb (by
  rintro _ _ v1 v2 M H rfl rfl A i1 i2 Q q
  cases i1
  cases i2
  exact ⟨k, z, rfl, rfl, q.here A rfl (.bl _)⟩) hm
/-! dicts with text keys -/
theorem IsK.val : ∀ {kvs : List (Str × D)} {ws : List (Key × V)}, IsK M kvs ws → ∀ k : Str, (kvs.lookup k = none ∧ valV ws (Sum.inr k) = none) ∨ ∃ d v, kvs.lookup k = some d ∧ valV ws (Sum.inr k) = some v ∧ Is M d v
  | _, _, .nil, k => .inl ⟨rfl, rfl⟩
  | _, _, .cons (x := x) (d := d) (v := v) h t, k => by
    by_cases q : k = x
    · subst q
      exact .inr ⟨d, v, by simp [List.lookup], valV_pos rfl, h⟩
    · have e1 : (k == x) = false := by simpa using q
      have e2 : ¬ ((Sum.inr x, v) : Key × V).1 = Sum.inr k := fun e => q (Sum.inr.inj e).symm
      rw [valV_neg e2]
      simp only [List.lookup, e1]
      exact t.val k
theorem IsK.some (h : IsK M kvs ws) (k : Str) : (valV ws (Sum.inr k)).isSome = (kvs.lookup k).isSome := by
  rcases h.val k with ⟨e1, e2⟩ | ⟨d, v, e1, e2, _⟩ <;> rw [e1, e2] <;> rfl
theorem jd_dget (hu : X.A.units + 1 < cLine) (ha : JD X g ρ a (.dic kvs)) (hb : JD X g ρ b (.str s)) (h : kvs.lookup s = some d) (hs : NoSl b := by intro _ _; rfl) : JD X g ρ (.Subscript a b pos) d :=
  j_of (pe_dget hu pe_W pe_W hs) fun B σ M H E Q q => ha.at_ E fun d1 v1 M1 H1 p1 E1 s1 i1 => hb.at_ E1 fun d2 v2 M2 H2 p2 E2 s2 i2 => by
    subst p1 p2
    have i1' := i1.mono s2.mm
    cases i2
    cases i1' with
    | dic e l =>
      rcases l.val s with ⟨e1, _⟩ | ⟨d', v, e1, e2, i⟩
      · rw [h] at e1; cases e1
      · rw [h] at e1
        cases e1
        exact ⟨_, v, rfl, by rw [← e2]; exact DGet.k (k := Sum.inr s) (E2.at_.sub _ _ e), (Kn.to q (s1.trans s2)).here E2.at_ rfl i⟩
theorem din_core {ws : List (Key × V)} {ad : Addr} (A : At g M H) (e : M ad = some (.dK ws)) (l : IsK M kvs ws) (s : Str) : ∃ o, DGet H ad (.str s) o ∧ o.isSome = (kvs.lookup s).isSome := ⟨_, DGet.k (k := Sum.inr s) (A.sub _ _ e), l.some s⟩
theorem jd_din (hu : X.A.units + 1 < cLine) (ha : JD X g ρ a (.str s)) (hb : JD X g ρ b (.dic kvs)) (hm : behindInMarks .In b = false := by rfl) : JD X g ρ (.Compare a [.In] [b] pos) (.bl (kvs.lookup s).isSome) :=
  j_of (pe_cmp (pc_din hu pe_W pe_W) hm) fun B σ M H E Q q => ha.at_ E fun d1 v1 M1 H1 p1 E1 s1 i1 => hb.at_ E1 fun d2 v2 M2 H2 p2 E2 s2 i2 => by
    subst p1 p2
    cases i1
    cases i2 with
    | dic e l =>
      obtain ⟨o, h1, h2⟩ := din_core E2.at_ e l s
      exact ⟨_, o, rfl, h1, by rw [h2]; exact (Kn.to q (s1.trans s2)).here E2.at_ rfl (.bl _)⟩
theorem jt_din (hu : X.A.units + 1 < cLine) (ha : JD X g ρ a (.str s)) (hb : JD X g ρ b (.dic kvs)) (hm : behindInMarks .In b = false := by rfl) : JTD X g ρ (.Compare a [.In] [b] pos) (kvs.lookup s).isSome :=
  jt_of (pt_cmp (pc_din hu pe_W pe_W) hm) fun B σ M H E Q q => ha.at_ E fun d1 v1 M1 H1 p1 E1 s1 i1 => hb.at_ E1 fun d2 v2 M2 H2 p2 E2 s2 i2 => by
    subst p1 p2
    cases i1
    cases i2 with
    | dic e l =>
      obtain ⟨o, h1, h2⟩ := din_core E2.at_ e l s
      exact ⟨_, o, rfl, h1, _, rfl, by rw [h2]; exact q _ M2 H2 rfl (s1.trans s2)⟩
theorem jt_dnin (hu : X.A.units + 1 < cLine) (ha : JD X g ρ a (.str s)) (hb : JD X g ρ b (.dic kvs)) (hm : behindInMarks .NotIn b = false := by rfl) : JTD X g ρ (.Compare a [.NotIn] [b] pos) (!(kvs.lookup s).isSome) :=
  jt_of (pt_cmp (pc_dnotin hu pe_W pe_W) hm) fun B σ M H E Q q => ha.at_ E fun d1 v1 M1 H1 p1 E1 s1 i1 => hb.at_ E1 fun d2 v2 M2 H2 p2 E2 s2 i2 => by
    subst p1 p2
    cases i1
    cases i2 with
    | dic e l =>
      obtain ⟨o, h1, h2⟩ := din_core E2.at_ e l s
      exact ⟨_, o, rfl, h1, _, rfl, by rw [h2]; exact q _ M2 H2 rfl (s1.trans s2)⟩
/-! and, or, not -/
theorem jt_val (h : JD X g ρ e (.bl u)) (he : ∀ whole, isTrue e X.env whole = (do let v ← whole; standAt e.pos; holding [v] (truthy v)) := by intro _; rfl) : JTD X g ρ e u :=
  jt_of (pt_val pe_W he) fun B σ M H E Q q => h.at_ E fun d v M1 H1 p E1 s i => by
    subst p
    cases i
    exact ⟨u, rfl, q u M1 H1 rfl s⟩
theorem jt_not (h : JTD X g ρ e u) : JTD X g ρ (.UnaryOp .Not e pos) (!u) := jt_of (pt_not pt_W) fun B σ M H E Q q => h.at_ E fun b M1 H1 p E1 s => by subst p; exact q _ M1 H1 rfl s
theorem jw_and1 (h : JTD X g ρ a u) : JWD X g ρ (.BoolOp .And [a] pos) u := .mk fun B σ M H E Q q => w_w (pw_and1 pt_W) (h.at_ E fun b M1 H1 p E1 s => q b M1 H1 p s)
theorem jw_or1 (h : JTD X g ρ a u) : JWD X g ρ (.BoolOp .Or [a] pos) u := .mk fun B σ M H E Q q => w_w (pw_or1 pt_W) (h.at_ E fun b M1 H1 p E1 s => q b M1 H1 p s)
theorem jw_and (h : JTD X g ρ a u) (k : u = true → JWD X g ρ (.BoolOp .And (b :: rest) pos) w) : JWD X g ρ (.BoolOp .And (a :: b :: rest) pos) (u && w) := .mk fun B σ M H E Q q => w_w (pw_and pt_W pw_W) (h.at_ E fun z M1 H1 p E1 s => by
  subst p
  by_cases hz : z = true
  · rw [if_pos hz]
    exact (k hz).at_ E1 fun y M2 H2 p2 E2 s2 => q _ M2 H2 (by rw [p2, hz]; rfl) (s.trans s2)
  · rw [if_neg hz]
    exact q _ M1 H1 (by rw [ff_of hz]; rfl) s)
theorem jw_or (h : JTD X g ρ a u) (k : u = false → JWD X g ρ (.BoolOp .Or (b :: rest) pos) w) : JWD X g ρ (.BoolOp .Or (a :: b :: rest) pos) (u || w) := .mk fun B σ M H E Q q => w_w (pw_or pt_W pw_W) (h.at_ E fun z M1 H1 p E1 s => by
  subst p
  by_cases hz : z = true
  · rw [if_pos hz]
    exact q _ M1 H1 (by rw [hz]; rfl) s
  · rw [if_neg hz]
    exact (k (ff_of hz)).at_ E1 fun y M2 H2 p2 E2 s2 => q _ M2 H2 (by rw [p2, ff_of hz]; rfl) (s.trans s2))
theorem JW.t (h : JW X g ρ e Pb) : JT X g ρ e Pb := jt_of pw_W.pt h
theorem jd_one {op} (h : J X g ρ a P) : J X g ρ (.BoolOp op [a] pos) P := j_of (pe_one pe_W) fun B σ M H E Q q => h.at_ E fun d v M1 H1 p E1 s i => q d v M1 H1 p s i
theorem jd_and (h : JD X g ρ a (.bl u)) (k : u = true → JD X g ρ (.BoolOp .And (b :: rest) pos) (.bl w)) : JD X g ρ (.BoolOp .And (a :: b :: rest) pos) (.bl (u && w)) := j_of (pe_and pe_W pe_W) fun B σ M H E Q q => h.at_ E fun d v M1 H1 p E1 s i => by
  subst p
  cases i
  refine ⟨u, rfl, ?_⟩
  by_cases hz : u = true
  · rw [if_pos hz]
    exact (k hz).at_ E1 fun y v2 M2 H2 p2 E2 s2 i2 => q _ _ M2 H2 (by rw [p2, hz]; rfl) (s.trans s2) i2
  · rw [if_neg hz]
    exact (Kn.to q s).here E1.at_ (by rw [ff_of hz]; rfl) (.bl _)
theorem jd_or (h : JD X g ρ a (.bl u)) (k : u = false → JD X g ρ (.BoolOp .Or (b :: rest) pos) (.bl w)) : JD X g ρ (.BoolOp .Or (a :: b :: rest) pos) (.bl (u || w)) := j_of (pe_or pe_W pe_W) fun B σ M H E Q q => h.at_ E fun d v M1 H1 p E1 s i => by
  subst p
  cases i
  refine ⟨u, rfl, ?_⟩
  by_cases hz : u = true
  · rw [if_pos hz]
    exact (Kn.to q s).here E1.at_ (by rw [hz]; rfl) (.bl _)
  · rw [if_neg hz]
    exact (k (ff_of hz)).at_ E1 fun y v2 M2 H2 p2 E2 s2 i2 => q _ _ M2 H2 (by rw [p2, ff_of hz]; rfl) (s.trans s2) i2
theorem jd_not (h : JD X g ρ a (.bl u)) : JD X g ρ (.UnaryOp .Not a pos) (.bl (!u)) := j_of (pe_not pe_W) fun B σ M H E Q q => h.at_ E fun d v M1 H1 p E1 s i => by
  subst p
  cases i
  exact ⟨u, rfl, (Kn.to q s).here E1.at_ rfl (.bl _)⟩
theorem j_if (h : JT X g ρ c Pb) (k1 : Pb true → J X g ρ a P) (k2 : Pb false → J X g ρ b P) : J X g ρ (.IfExp c a b pos) P := j_of (pe_ifExp pt_W pe_W pe_W) fun B σ M H E Q q => h.at_ E fun z M1 H1 p E1 s => by
  by_cases hz : z = true
  · rw [if_pos hz]
    exact (k1 (hz ▸ p)).at_ E1 fun y v2 M2 H2 p2 E2 s2 i2 => q _ _ M2 H2 p2 (s.trans s2) i2
  · rw [if_neg hz]
    exact (k2 ((ff_of hz) ▸ p)).at_ E1 fun y v2 M2 H2 p2 E2 s2 i2 => q _ _ M2 H2 p2 (s.trans s2) i2
theorem jd_if (h : JTD X g ρ c u) (k1 : u = true → JD X g ρ a d1) (k2 : u = false → JD X g ρ b d2) : JD X g ρ (.IfExp c a b pos) (if u = true then d1 else d2) :=
  j_if h (fun e => by rw [if_pos e.symm]; exact k1 e.symm) (fun e => by rw [if_neg (by rw [← e]; decide)]; exact k2 e.symm)
/-- a sequence's truth -/
theorem jt_seq (h : JD X g ρ e d) (hq : Sq d ds := by first | exact Or.inl rfl | exact Or.inr rfl) (he : ∀ whole, isTrue e X.env whole = (do let v ← whole; standAt e.pos; holding [v] (truthy v)) := by intro _; rfl) : JTD X g ρ e (!ds.isEmpty) :=
  jt_of (pt_truth pe_W he) fun B σ M H E Q q => h.at_ E fun d v M1 H1 p E1 s i => by
    subst p
    obtain ⟨p, vs, rfl, il, hx⟩ := E1.at_.sq (X := X) i hq
    have e : vs.isEmpty = ds.isEmpty := by cases il <;> rfl
    rcases hx with hx | hx
    · exact ⟨_, .inl ⟨vs, hx, rfl⟩, by rw [e]; exact q _ M1 H1 rfl s⟩
    · exact ⟨_, .inr (.inl ⟨vs, hx, rfl⟩), by rw [e]; exact q _ M1 H1 rfl s⟩

theorem rr_isN : RR g (fun x y H Q => y = .non ∧ Q (.bl (decide (x = .non))) H) (fun z => z = d) (fun z => z = .non) (fun z => z = .bl d.isN) := by
  rintro _ _ v1 v2 M H rfl rfl A i1 i2 Q k
  cases i2
  exact ⟨rfl, by rw [i1.isN]; exact k.here A rfl (.bl _)⟩
theorem rr_notN : RR g (fun x y H Q => y = .non ∧ Q (.bl (!decide (x = .non))) H) (fun z => z = d) (fun z => z = .non) (fun z => z = .bl (!d.isN)) := by
  rintro _ _ v1 v2 M H rfl rfl A i1 i2 Q k
  cases i2
  exact ⟨rfl, by rw [i1.isN]; exact k.here A rfl (.bl _)⟩
theorem jt_isN (ha : JD X g ρ a d) {k} : JTD X g ρ (.Compare a [.Is] [.Constant .none k pos'] pos) d.isN := jt_cmp op_isN ha j_non rr_isN.tb
theorem jt_notN (ha : JD X g ρ a d) {k} : JTD X g ρ (.Compare a [.IsNot] [.Constant .none k pos'] pos) (!d.isN) := jt_cmp op_notN ha j_non rr_notN.tb
end
end FD
end
section
set_option maxHeartbeats 2000000
/-! rules for calls: built-ins, defs, methods, classes -/
namespace FD
open PySem PySem.Spec PyProof.Rows L2
/-! ### sorting texts, leaving out doubles -/
def sle (a b : Str) : Bool := !ltCps b.cps.toList a.cps.toList
theorem ltCps_iff : ∀ a b : List Nat, ltCps a b = true ↔ a < b
  | [], [] => by simp [ltCps]
  | [], _ :: _ => by simp [ltCps]
  | _ :: _, [] => by simp [ltCps]
  | a :: r, b :: t => by
    simp only [ltCps, Bool.or_eq_true, Bool.and_eq_true, decide_eq_true_eq, beq_iff_eq, ltCps_iff r t, List.cons_lt_cons_iff]
theorem sle_iff {a b : Str} : sle a b = true ↔ a.cps.toList ≤ b.cps.toList := by
  unfold sle
  rw [Bool.not_eq_true', ← Bool.not_eq_true, ltCps_iff]
  exact List.not_lt
theorem sle_trans (a b c : Str) (h1 : sle a b = true) (h2 : sle b c = true) : sle a c = true := sle_iff.mpr (List.le_trans (sle_iff.mp h1) (sle_iff.mp h2))
theorem sle_total (a b : Str) : (sle a b || sle b a) = true := by
  rw [Bool.or_eq_true, sle_iff, sle_iff]
  exact List.le_total _ _
theorem sle_antisymm {a b : Str} (h1 : sle a b = true) (h2 : sle b a = true) : a = b := by
  have h := List.le_antisymm (sle_iff.mp h1) (sle_iff.mp h2)
  cases a with
  | mk x =>
    cases b with
    | mk y =>
      have : x = y := by
        have : x.toList = y.toList := h
        exact Array.toList_inj.mp this
      rw [this]
def srt (xs : List Str) : List Str := xs.mergeSort sle
theorem srt_perm (xs : List Str) : (srt xs).Perm xs := List.mergeSort_perm xs sle
theorem srt_pw (xs : List Str) : (srt xs).Pairwise fun a b => sle a b = true := List.pairwise_mergeSort sle_trans sle_total xs
theorem pw_of_rising : ∀ (l : List Str) (p : Str), risingS p l = true → (p :: l).Pairwise fun a b => sle a b = true
  | [], p, _ => by simp
  | x :: r, p, h => by
    have h : (!ltCps x.cps.toList p.cps.toList && risingS x r) = true := h
    rw [Bool.and_eq_true] at h
    have ih := pw_of_rising r x h.2
    refine List.pairwise_cons.mpr ⟨fun y hy => ?_, ih⟩
    rcases List.mem_cons.mp hy with rfl | hy
    · exact h.1
    · exact sle_trans _ _ _ h.1 (List.rel_of_pairwise_cons ih hy)
theorem pw_of_sorted : ∀ {l : List Str}, sortedS l = true → l.Pairwise fun a b => sle a b = true
  | [], _ => .nil
  | x :: r, h => pw_of_rising r x h
theorem srt_eq {xs ys : List Str} (p : ys.Perm xs) (h : sortedS ys = true) : ys = srt xs :=
  List.Perm.eq_of_pairwise (fun a b _ _ h1 h2 => sle_antisymm h1 h2) (pw_of_sorted h) (srt_pw xs) (p.trans (srt_perm xs).symm)
theorem srt_congr {xs ys : List Str} (p : xs.Perm ys) : srt xs = srt ys :=
  List.Perm.eq_of_pairwise (fun a b _ _ h1 h2 => sle_antisymm h1 h2) (srt_pw xs) (srt_pw ys) ((srt_perm xs).trans (p.trans (srt_perm ys).symm))
theorem srt_mem {xs : List Str} {x : Str} : x ∈ srt xs ↔ x ∈ xs := (srt_perm xs).mem_iff
theorem srt_len (xs : List Str) : (srt xs).length = xs.length := (srt_perm xs).length_eq
def dd {α : Type} [DecidableEq α] : List α → List α
  | [] => []
  | x :: xs => if x ∈ dd xs then dd xs else x :: dd xs
section
variable {α : Type} [DecidableEq α]
theorem dd_mem {x : α} : ∀ {xs : List α}, x ∈ dd xs ↔ x ∈ xs
  | [] => Iff.rfl
  | y :: ys => by
    unfold dd
    by_cases h : y ∈ dd ys
    · rw [if_pos h, dd_mem, List.mem_cons]
      exact ⟨.inr, fun e => e.elim (fun z => z ▸ dd_mem.mp h) id⟩
    · rw [if_neg h, List.mem_cons, List.mem_cons, dd_mem]
theorem dd_nodup : ∀ (xs : List α), (dd xs).Nodup
  | [] => .nil
  | y :: ys => by
    unfold dd
    by_cases h : y ∈ dd ys
    · rw [if_pos h]; exact dd_nodup ys
    · rw [if_neg h]; exact List.nodup_cons.mpr ⟨h, dd_nodup ys⟩
theorem nodup_perm {xs ys : List α} (h1 : xs.Nodup) (h2 : ys.Nodup) (h : ∀ x, x ∈ xs ↔ x ∈ ys) : xs.Perm ys := (List.perm_ext_iff_of_nodup h1 h2).mpr h
theorem dd_len_le : ∀ (xs : List α), (dd xs).length ≤ xs.length
  | [] => Nat.le_refl _
  | y :: ys => by
    have := dd_len_le ys
    unfold dd
    by_cases h : y ∈ dd ys
    · rw [if_pos h, List.length_cons]; omega
    · rw [if_neg h, List.length_cons, List.length_cons]; omega
theorem dd_len {xs : List α} : (dd xs).length = xs.length ↔ xs.Nodup := by
  induction xs with
  | nil => exact ⟨fun _ => .nil, fun _ => rfl⟩
  | cons y ys ih =>
    have l := dd_len_le ys
    unfold dd
    by_cases h : y ∈ dd ys
    · rw [if_pos h, List.length_cons, List.nodup_cons]
      exact ⟨fun e => absurd e (by omega), fun e => absurd (dd_mem.mp h) e.1⟩
    · rw [if_neg h, List.length_cons, List.length_cons, List.nodup_cons, ← ih]
      exact ⟨fun e => ⟨fun z => h (dd_mem.mpr z), by omega⟩, fun e => by omega⟩
end
def srtI (xs : List Int) : List Int := xs.mergeSort fun a b => decide (a ≤ b)
theorem srtI_perm (xs : List Int) : (srtI xs).Perm xs := List.mergeSort_perm xs _
theorem srtI_pw (xs : List Int) : (srtI xs).Pairwise (· ≤ ·) := by
  have h := List.pairwise_mergeSort (le := fun a b : Int => decide (a ≤ b)) (fun a b c h1 h2 => by simp at *; omega) (fun a b => by simp; omega) xs
  exact h.imp fun e => by simpa using e
theorem srtI_eq {xs ys : List Int} (p : ys.Perm xs) (h : ys.Pairwise (· ≤ ·)) : ys = srtI xs :=
  List.Perm.eq_of_pairwise (fun a b _ _ h1 h2 => Int.le_antisymm h1 h2) h (srtI_pw xs) (p.trans (srtI_perm xs).symm)
theorem bt_len : bootBuiltins "len" = some (.builtin "len") := by decide +kernel
theorem bt_int : bootBuiltins "int" = some (.type "int") := by decide +kernel
theorem bt_list : bootBuiltins "list" = some (.type "list") := by decide +kernel
theorem bt_tuple : bootBuiltins "tuple" = some (.type "tuple") := by decide +kernel
theorem bt_set : bootBuiltins "set" = some (.type "set") := by decide +kernel
theorem bt_bool : bootBuiltins "bool" = some (.type "bool") := by decide +kernel
theorem bt_str : bootBuiltins "str" = some (.type "str") := by decide +kernel
theorem bt_dict : bootBuiltins "dict" = some (.type "dict") := by decide +kernel
theorem bt_all : bootBuiltins "all" = some (.builtin "all") := by decide +kernel
theorem bt_any : bootBuiltins "any" = some (.builtin "any") := by decide +kernel
theorem bt_sorted : bootBuiltins "sorted" = some (.builtin "sorted") := by decide +kernel
theorem bt_isinstance : bootBuiltins "isinstance" = some (.builtin "isinstance") := by decide +kernel
/-! ### what the module holds -/
structure Mo (K : PySem.W.Frag) (mg : Str → Option Value) where
  len : mg "len" = none
  int : mg "int" = none
  list : mg "list" = none
  tuple : mg "tuple" = none
  set : mg "set" = none
  bool : mg "bool" = none
  str : mg "str" = none
  dict : mg "dict" = none
  all : mg "all" = none
  any : mg "any" = none
  sorted : mg "sorted" = none
  isinstance : mg "isinstance" = none
  range : mg "range" = none
  zip : mg "zip" = none
  enumerate : mg "enumerate" = none
  cR : Addr
  cO : Addr
  cB : Addr
  gR : mg "Row" = some (.ref cR)
  gO : mg "Order" = some (.ref cO)
  gB : mg "Book" = some (.ref cB)
  kR : Cls K cR
  kO : Cls K cO
  kB : Cls K cB
  ne1 : cR ≠ cO
  ne2 : cR ≠ cB
  ne3 : cO ≠ cB
  aR : PySem.W.findIn K (.ref cR) "__class__" = some (some (.builtin "object.__class__"))
  aO : PySem.W.findIn K (.ref cO) "__class__" = some (some (.builtin "object.__class__"))
  aB : PySem.W.findIn K (.ref cB) "__class__" = some (some (.builtin "object.__class__"))
  hn : PySem.W.specialIn K (.builtin "object.__class__") "__get__" = some (some (.builtin "getset_descriptor.__get__"))
  htk : PySem.W.takesIn K (.builtin "object.__class__") = some true
  mR : PySem.W.mroIn K cR (.type "object") = some true
  mO : PySem.W.mroIn K cO (.type "object") = some true
  mB : PySem.W.mroIn K cB (.type "object") = some true
  nR : ∀ f ∈ (["pro", "con", "named"] : List Str), NoAttr K cR f
  nO : ∀ f ∈ (["ranked", "spots", "reasons"] : List Str), NoAttr K cO f
  nB : ∀ f ∈ (["reasons", "by_mark"] : List Str), NoAttr K cB f
  kit : ∀ t u : Tg, u ≠ .non → PySem.W.kitOne K (match t with | .non => .type "NoneType" | .bl => .type "bool" | .int => .type "int" | .str => .type "str" | .lst => .type "list" | .tup => .type "tuple" | .dic => .type "dict" | .row => .ref cR | .ord => .ref cO | .book => .ref cB)
    (match u with | .non => .type "NoneType" | .bl => .type "bool" | .int => .type "int" | .str => .type "str" | .lst => .type "list" | .tup => .type "tuple" | .dic => .type "dict" | .row => .ref cR | .ord => .ref cO | .book => .ref cB) = some (t.is u)
  mcl : Value
  crB : ClX.CRead K cB mcl
  most : ∃ u, ClX.CVal K cB mcl "MOST" (.int 40) u
  crO : ClX.CRead K cO mcl
  letters : ∃ t, mg "LETTERS" = some (.str "abcdefghijklmnopqrstuvwxyz" t)
  nameLen : ∃ t, mg "NAME_LENGTH" = some (.int 6 t)
  mostRanked : ∃ t, mg "MOST_RANKED" = some (.int 7 t)
  mostReasons : ∃ t, mg "MOST_REASONS_books" = some (.int 7 t)
section
variable {K : PySem.W.Frag} {mg : Str → Option Value} (T : Mo K mg)
def Mo.val (T : Mo K mg) : Tg → Value
  | .non => .type "NoneType" | .bl => .type "bool" | .int => .type "int" | .str => .type "str" | .lst => .type "list" | .tup => .type "tuple" | .dic => .type "dict" | .row => .ref T.cR | .ord => .ref T.cO | .book => .ref T.cB
def Mo.tag (T : Mo K mg) : D → Option Tg
  | .non => some .non
  | .bl _ => some .bl
  | .int _ => some .int
  | .str _ => some .str
  | .lst _ => some .lst
  | .tup _ => some .tup
  | .dic _ => some .dic
  | .adr _ => none
  | .ins C _ => if C = T.cR then some .row else if C = T.cO then some .ord else if C = T.cB then some .book else none
theorem Mo.ty {g : Bg} {M H : Hp} {d : D} {v : V} {t : Tg} (h : At g M H) (i : Is M d v) (e : T.tag d = some t) : TyX K H v (T.val t) := by
  cases i with
  | non => cases e; exact .base .non
  | bl b => cases e; exact .base (.bl b)
  | int b => cases e; exact .base (.int b)
  | str b => cases e; exact .base (.str b)
  | adr a => cases e
  | tup q _ => cases e; exact .base (.tup (h.sub _ _ q))
  | lst q _ => cases e; exact .base (.lst (h.sub _ _ q))
  | dic q _ => cases e; exact .base (.dK (h.sub _ _ q))
  | @ins a C dx fs ws q _ =>
    replace e : (if C = T.cR then some Tg.row else if C = T.cO then some Tg.ord else if C = T.cB then some Tg.book else none) = some t := e
    by_cases h1 : C = T.cR
    · subst h1; rw [if_pos rfl] at e; cases e; exact .base (.ins (h.sub _ _ q) T.kR T.aR T.hn T.htk T.mR)
    · rw [if_neg h1] at e
      by_cases h2 : C = T.cO
      · subst h2; rw [if_pos rfl] at e; cases e; exact .base (.ins (h.sub _ _ q) T.kO T.aO T.hn T.htk T.mO)
      · rw [if_neg h2] at e
        by_cases h3 : C = T.cB
        · subst h3; rw [if_pos rfl] at e; cases e; exact .base (.ins (h.sub _ _ q) T.kB T.aB T.hn T.htk T.mB)
        · rw [if_neg h3] at e; cases e
theorem Mo.one (t u : Tg) (hu : u ≠ .non) : PySem.W.kitOne K (T.val t) (T.val u) = some (t.is u) := T.kit t u hu
end
section
variable {X : Cx} {g : Bg} {ρ : List Slot} {e a b c o e1 e2 : Expr} {es rest : List Expr} {P P1 P2 P3 : D → Prop} {Ps : List D → Prop} {d d1 d2 : D} {pos p apos pos' p2 : Pos} {x m : Str} {te : TE} {B : Ba} {σ : L2.St} {M H M' H' : Hp} {v : V} {Q : VK} {ds ds' : List D} {s z : Str} {ss zs : List Str} {i j : Int} {n k : Nat} {C : Addr} {fs : List (Str × D)} {kvs : List (Str × D)}
/-! ### built-ins -/
def RC (g : Bg) (r : List V → Hp → VK → Prop) (Ps : List D → Prop) (P : D → Prop) : Prop := ∀ ds vs M H, Ps ds → At g M H → IsL M ds vs → ∀ Q, Kn g M H P Q → r vs H Q
theorem j_callB {id : String} {r : List V → Hp → VK → Prop} (hc : CallR X (.builtin id) r) (hm : X.mg x = none) (hv : bootBuiltins x = some (.builtin id)) (ha : JA X g ρ (e :: es) Ps) (hr : RC g r Ps P) (hg : Gl X x := by rfl)
    (hn : x ≠ "__name__" := by decide) (hdb : (x == ("__debug__" : Str)) = false := by decide) (he : starEach (e :: es) X.env = (false, eval e X.env) :: starEach es X.env := by rfl) (hpl : (backTo pos (starEach es X.env)).any (·.1) = false := by rfl) : J X g ρ (.Call (.Name x p) (e :: es) [] pos) P :=
  j_of (pe_callB hc hg hm hv pa_W hn hdb he hpl) fun B σ M H E Q q => ha.at_ E fun ds vs M1 H1 p E1 s i => hr ds vs M1 H1 p E1.at_ i Q (Kn.to q s)
theorem j_callTy {T : String} {r : List V → Hp → VK → Prop} (hc : CallR X (.type T) r) (hm : X.mg x = none) (hv : bootBuiltins x = some (.type T)) (ha : JA X g ρ (e :: es) Ps) (hr : RC g r Ps P) (hg : Gl X x := by rfl)
    (hn : x ≠ "__name__" := by decide) (hdb : (x == ("__debug__" : Str)) = false := by decide) (he : starEach (e :: es) X.env = (false, eval e X.env) :: starEach es X.env := by rfl) (hpl : (backTo pos (starEach es X.env)).any (·.1) = false := by rfl) : J X g ρ (.Call (.Name x p) (e :: es) [] pos) P :=
  j_of (pe_callTy hc hg hm hv pa_W hn hdb he hpl) fun B σ M H E Q q => ha.at_ E fun ds vs M1 H1 p E1 s i => hr ds vs M1 H1 p E1.at_ i Q (Kn.to q s)
theorem rc1 {r : List V → Hp → VK → Prop} (h : ∀ d v M H, P1 d → At g M H → Is M d v → ∀ Q, Kn g M H P Q → r [v] H Q) : RC g r (fun ds => ∃ d ds', ds = d :: ds' ∧ P1 d ∧ ds' = []) P := by
  rintro _ vs M H ⟨d, _, rfl, p, rfl⟩ A il Q k
  cases il with
  | cons i t =>
    cases t
    exact h d _ M H p A i Q k
variable (T : Mo X.K X.mg)
include T
theorem jd_len (h : JD X g ρ e d) (hq : Sq d ds := by first | exact Or.inl rfl | exact Or.inr rfl) (hg : Gl X "len" := by rfl) (he : starEach [e] X.env = (false, eval e X.env) :: starEach [] X.env := by rfl) : JD X g ρ (.Call (.Name "len" p) [e] [] pos) (.int (ds.length : Nat)) :=
  j_callB call_len T.len bt_len (ja_cons h ja_nil he) (rc1 (by
    rintro _ v M H rfl A i Q k
    obtain ⟨p, vs, rfl, il, hx⟩ := A.sq (X := X) i hq
    refine ⟨_, ds.length, rfl, ?_, k.here A rfl (.int _)⟩
    rcases hx with hx | hx
    · exact .inl ⟨vs, hx, il.length.symm⟩
    · exact .inr ⟨vs, hx, il.length.symm⟩)) hg (he := he)
theorem jd_lenS (h : JD X g ρ e (.str s)) (hz : s.length ≤ sizeLine) (hg : Gl X "len" := by rfl) (he : starEach [e] X.env = (false, eval e X.env) :: starEach [] X.env := by rfl) : JD X g ρ (.Call (.Name "len" p) [e] [] pos) (.int (s.length : Nat)) :=
  j_callB call_len T.len bt_len (ja_cons h ja_nil he) (rc1 (by
    rintro _ v M H rfl A i Q k
    cases i
    exact ⟨_, s.length, rfl, ⟨hz, rfl⟩, k.here A rfl (.int _)⟩)) hg (he := he)
theorem jp_list (h : J X g ρ e P1) (hk : ∀ d, P1 d → ∃ ds, Sq d ds ∧ P (.lst ds)) (hg : Gl X "list" := by rfl) (he : starEach [e] X.env = (false, eval e X.env) :: starEach [] X.env := by rfl) : J X g ρ (.Call (.Name "list" p) [e] [] pos) P :=
  j_callTy call_list_of T.list bt_list (ja_cons h ja_nil he) (rc1 (by
    rintro d v M H p A i Q k
    obtain ⟨ds, hq, hp⟩ := hk d p
    obtain ⟨p, vs, rfl, il, hx⟩ := A.sq (X := X) i hq
    exact ⟨p, vs, rfl, hx, fun l hl => k.new A hl hp fun M' s h => .lst h (il.mono s)⟩)) hg (he := he)
theorem jd_list (h : JD X g ρ e d) (hq : Sq d ds := by first | exact Or.inl rfl | exact Or.inr rfl) (hg : Gl X "list" := by rfl) (he : starEach [e] X.env = (false, eval e X.env) :: starEach [] X.env := by rfl) : JD X g ρ (.Call (.Name "list" p) [e] [] pos) (.lst ds) := jp_list T h (by rintro _ rfl; exact ⟨ds, hq, rfl⟩) hg he
theorem jp_tuple (h : J X g ρ e P1) (hk : ∀ d, P1 d → ∃ ds, Sq d ds ∧ P (.tup ds)) (hg : Gl X "tuple" := by rfl) (he : starEach [e] X.env = (false, eval e X.env) :: starEach [] X.env := by rfl) : J X g ρ (.Call (.Name "tuple" p) [e] [] pos) P :=
  j_callTy call_tuple_of T.tuple bt_tuple (ja_cons h ja_nil he) (rc1 (by
    rintro d v M H p A i Q k
    obtain ⟨ds, hq, hp⟩ := hk d p
    rcases hq with rfl | rfl
    · cases i with
      | lst e il => exact ⟨_, _, rfl, .inl ⟨SqL.of (A.sub _ _ e), fun l hl => k.new A hl hp fun M' s h => .tup h (il.mono s)⟩⟩
    · have i' := i
      cases i with
      | tup e il => exact ⟨_, _, rfl, .inr ⟨SqT.of (A.sub _ _ e), k.here A hp i'⟩⟩)) hg (he := he)
theorem jd_tuple (h : JD X g ρ e d) (hq : Sq d ds := by first | exact Or.inl rfl | exact Or.inr rfl) (hg : Gl X "tuple" := by rfl) (he : starEach [e] X.env = (false, eval e X.env) :: starEach [] X.env := by rfl) : JD X g ρ (.Call (.Name "tuple" p) [e] [] pos) (.tup ds) := jp_tuple T h (by rintro _ rfl; exact ⟨ds, hq, rfl⟩) hg he
theorem jd_sorted (h : JD X g ρ e d) (hz : ss.length < 64) (hq : Sq d (ss.map D.str) := by first | exact Or.inl rfl | exact Or.inr rfl) (hg : Gl X "sorted" := by rfl) (he : starEach [e] X.env = (false, eval e X.env) :: starEach [] X.env := by rfl) : JD X g ρ (.Call (.Name "sorted" p) [e] [] pos) (.lst ((srt ss).map D.str)) := by
  rcases hq with rfl | rfl
  · exact j_callB cr_sortedS T.sorted bt_sorted (ja_cons h ja_nil he) (rc1 (by
      rintro _ v M H rfl A i Q k
      cases i with
      | lst e il =>
        obtain rfl := il.strs
        refine ⟨_, ss, rfl, SqL.of (A.sub _ _ e), hz, fun ys q pm st hq => ?_⟩
        rw [srt_eq pm st]
        exact k.new A hq rfl fun M' s h => .lst h (.ofStrs _))) hg (he := he)
  · exact j_callB cr_sortedTS T.sorted bt_sorted (ja_cons h ja_nil he) (rc1 (by
      rintro _ v M H rfl A i Q k
      cases i with
      | tup e il =>
        obtain rfl := il.strs
        refine ⟨_, ss, rfl, SqT.of (A.sub _ _ e), hz, fun ys q pm st hq => ?_⟩
        rw [srt_eq pm st]
        exact k.new A hq rfl fun M' s h => .lst h (.ofStrs _))) hg (he := he)
theorem jd_all {bs : List Bool} (hc : X.calm = true) (h : JD X g ρ e (.lst (bs.map D.bl))) (hg : Gl X "all" := by rfl) (he : starEach [e] X.env = (false, eval e X.env) :: starEach [] X.env := by rfl) : JD X g ρ (.Call (.Name "all" p) [e] [] pos) (.bl (bs.all id)) :=
  j_callB (cr_all hc) T.all bt_all (ja_cons h ja_nil he) (rc1 (by
    rintro _ v M H rfl A i Q k
    cases i with
    | lst e il =>
      obtain rfl := il.bls
      exact ⟨_, bs, rfl, SqL.of (A.sub _ _ e), k.here A rfl (.bl _)⟩)) hg (he := he)
theorem jd_any {bs : List Bool} (hc : X.calm = true) (h : JD X g ρ e (.lst (bs.map D.bl))) (hg : Gl X "any" := by rfl) (he : starEach [e] X.env = (false, eval e X.env) :: starEach [] X.env := by rfl) : JD X g ρ (.Call (.Name "any" p) [e] [] pos) (.bl (bs.any id)) :=
  j_callB (cr_any hc) T.any bt_any (ja_cons h ja_nil he) (rc1 (by
    rintro _ v M H rfl A i Q k
    cases i with
    | lst e il =>
      obtain rfl := il.bls
      exact ⟨_, bs, rfl, SqL.of (A.sub _ _ e), k.here A rfl (.bl _)⟩)) hg (he := he)
theorem jd_int1 (h : JD X g ρ e (.int i)) (hg : Gl X "int" := by rfl) (he : starEach [e] X.env = (false, eval e X.env) :: starEach [] X.env := by rfl) : JD X g ρ (.Call (.Name "int" p) [e] [] pos) (.int i) :=
  j_callTy call_int1 T.int bt_int (ja_cons h ja_nil he) (rc1 (by
    rintro _ v M H rfl A i Q k
    cases i
    exact .inl ⟨_, rfl, k.here A rfl (.int _)⟩)) hg (he := he)
/-- len(set(texts)) -/
theorem jd_lenset (hc : X.calm = true) (h : JD X g ρ e d) (hz : ss.length ≤ 1000) (hq : Sq d (ss.map D.str) := by first | exact Or.inl rfl | exact Or.inr rfl) (hg : Gl X "len" := by rfl) (hg2 : Gl X "set" := by rfl)
    (he : starEach [e] X.env = (false, eval e X.env) :: starEach [] X.env := by rfl) (he2 : starEach [.Call (.Name "set" p2) [e] [] pos'] X.env = (false, eval (.Call (.Name "set" p2) [e] [] pos') X.env) :: starEach [] X.env := by rfl) :
    JD X g ρ (.Call (.Name "len" p) [.Call (.Name "set" p2) [e] [] pos'] [] pos) (.int ((dd ss).length : Nat)) :=
  j_of (pe_callB cr_lenSet hg T.len bt_len (pa_cons (pe_callTy (cr_setK hc) hg2 T.set bt_set (pa_cons pe_W pa_nil he) (he := he)) pa_nil he2) (he := he2)) fun B σ M H E Q q => h.at_ E fun d v M1 H1 p E1 s i => by
    subst p
    obtain ⟨l, vs, rfl, il, hx⟩ := E1.at_.sq (X := X) i hq
    obtain rfl := il.strs
    have em : (ss.map V.str) = (ss.map Sum.inr).map kV := by rw [List.map_map]; rfl
    rw [em] at hx
    refine ⟨l, ss.map Sum.inr, rfl, hx, by rw [List.length_map]; exact hz, fun r hr => ⟨r, ss.map Sum.inr, rfl, upd_same, fun ms nd hm => ?_⟩⟩
    have e1 : ms.length = (dd ss).length := by
      have : ms.Perm ((dd ss).map Sum.inr) := nodup_perm nd (List.Pairwise.map Sum.inr (fun a b hab e => hab (Sum.inr.inj e)) (dd_nodup ss)) fun k => by
        rw [hm]
        simp only [List.mem_map, dd_mem]
      rw [this.length_eq, List.length_map]
    rw [e1]
    exact q _ _ _ _ rfl (s.trans (Stp.tmp E1.at_ hr _)) (.int _)
/-- sorted(set(texts)), sorted(set(ints)) -/
theorem jd_sortset (hc : X.calm = true) (h : JD X g ρ e d) (hz : ss.length < 64) (hq : Sq d (ss.map D.str) := by first | exact Or.inl rfl | exact Or.inr rfl) (hg : Gl X "sorted" := by rfl) (hg2 : Gl X "set" := by rfl)
    (he : starEach [e] X.env = (false, eval e X.env) :: starEach [] X.env := by rfl) (he2 : starEach [.Call (.Name "set" p2) [e] [] pos'] X.env = (false, eval (.Call (.Name "set" p2) [e] [] pos') X.env) :: starEach [] X.env := by rfl) :
    JD X g ρ (.Call (.Name "sorted" p) [.Call (.Name "set" p2) [e] [] pos'] [] pos) (.lst ((srt (dd ss)).map D.str)) :=
  j_of (pe_callB (cr_sortedSetS hc) hg T.sorted bt_sorted (pa_cons (pe_callTy (cr_setK hc) hg2 T.set bt_set (pa_cons pe_W pa_nil he) (he := he)) pa_nil he2) (he := he2)) fun B σ M H E Q q => h.at_ E fun d v M1 H1 p E1 s i => by
    subst p
    obtain ⟨l, vs, rfl, il, hx⟩ := E1.at_.sq (X := X) i hq
    obtain rfl := il.strs
    have em : (ss.map V.str) = (ss.map Sum.inr).map kV := by rw [List.map_map]; rfl
    rw [em] at hx
    refine ⟨l, ss.map Sum.inr, rfl, hx, by rw [List.length_map]; omega, fun r hr => ⟨r, ss, rfl, upd_same, hz, fun ys t nd hm st ht => ?_⟩⟩
    have E2 : Stp g M1 H1 M1 (upd H1 r (SetH X.w r (ss.map Sum.inr))) := Stp.tmp E1.at_ hr _
    rw [srt_eq (nodup_perm nd (dd_nodup ss) fun k => by rw [hm, dd_mem]) st]
    exact (Kn.to q (s.trans E2)).new (E1.step E2).at_ ht rfl fun M' s h => .lst h (.ofStrs _)
theorem jd_sortsetI {ns : List Int} (hc : X.calm = true) (h : JD X g ρ e d) (hz : ns.length < 64) (hq : Sq d (ns.map D.int) := by first | exact Or.inl rfl | exact Or.inr rfl) (hg : Gl X "sorted" := by rfl) (hg2 : Gl X "set" := by rfl)
    (he : starEach [e] X.env = (false, eval e X.env) :: starEach [] X.env := by rfl) (he2 : starEach [.Call (.Name "set" p2) [e] [] pos'] X.env = (false, eval (.Call (.Name "set" p2) [e] [] pos') X.env) :: starEach [] X.env := by rfl) :
    JD X g ρ (.Call (.Name "sorted" p) [.Call (.Name "set" p2) [e] [] pos'] [] pos) (.lst ((srtI (dd ns)).map D.int)) :=
  j_of (pe_callB (cr_sortedSetI hc) hg T.sorted bt_sorted (pa_cons (pe_callTy (cr_setK hc) hg2 T.set bt_set (pa_cons pe_W pa_nil he) (he := he)) pa_nil he2) (he := he2)) fun B σ M H E Q q => h.at_ E fun d v M1 H1 p E1 s i => by
    subst p
    obtain ⟨l, vs, rfl, il, hx⟩ := E1.at_.sq (X := X) i hq
    obtain rfl := il.ints
    have em : (ns.map V.int) = (ns.map Sum.inl).map kV := by rw [List.map_map]; rfl
    rw [em] at hx
    refine ⟨l, ns.map Sum.inl, rfl, hx, by rw [List.length_map]; omega, fun r hr => ⟨r, ns, rfl, upd_same, hz, fun ys t nd hm st ht => ?_⟩⟩
    have E2 : Stp g M1 H1 M1 (upd H1 r (SetH X.w r (ns.map Sum.inl))) := Stp.tmp E1.at_ hr _
    rw [srtI_eq (nodup_perm nd (dd_nodup ns) fun k => by rw [hm, dd_mem]) st]
    exact (Kn.to q (s.trans E2)).new (E1.step E2).at_ ht rfl fun M' s h => .lst h (.ofInts _)
end
end FD
end
section
set_option maxHeartbeats 2000000
/-! rules for calls of defs, methods, classes; isinstance; fields; texts; dict displays; tables -/
namespace FD
open PySem PySem.Spec PyProof.Rows L2
/-! ### promises -/
def Pro {ι : Type} (pre : ι → List D) (post : ι → D → Prop) : Sp := fun vs H Q _ => ∃ (i : ι) (M : Hp), Same M H ∧ IsL M (pre i) vs ∧ ∀ d v M' H', post i d → Stp none M H M' H' → Is M' d v → Q v H'
def Dro {ι : Type} (pre : ι → List D) (post : ι → D → Prop) : Sp := fun vs H Q _ => ∃ (i : ι) (M : Hp) (b : Addr) (ns : Addr × List Int), At (some (b, ns)) M H ∧ IsL M (.adr b :: pre i) vs ∧ ∀ d v M' H', post i d → Stp (some (b, ns)) M H M' H' → Is M' d v → Q v H'
/-- an __init__ of the class at C: what it makes of the new instance -/
def Ini {ι : Type} (C : Addr) (pre : ι → List D) (post : ι → D → Prop) : Sp := fun vs H1 Q _ => ∃ (i : ι) (M H : Hp) (x dx : Addr) (ws : List V), vs = .ref x :: ws ∧ H1 = upd (upd H dx (.own x)) x (.ins C dx []) ∧ H x = none ∧ H dx = none ∧ dx ≠ x ∧ Same M H ∧ IsL M (pre i) ws ∧
  ∀ d M' H', post i d → Stp none M H M' H' → Is M' d (.ref x) → Q .non H'
structure Md (P : Program) (w : World) (K : PySem.W.Frag) (mg : Str → Option Value) (base : Heap) (C : Addr) (m : Str) (k : Nat) (sp : Sp) : Prop where
  ex : ∃ f, Meth K C m f ∧ FnR P w K mg base CX0 k f sp
structure Pt (P : Program) (w : World) (K : PySem.W.Frag) (mg : Str → Option Value) (base : Heap) (C : Addr) (m : Str) (k : Nat) (sp : Sp) : Prop where
  ex : ∃ p f, PropOf K C m p f ∧ FnR P w K mg base CX0 k f sp
structure Mc (P : Program) (w : World) (K : PySem.W.Frag) (mg : Str → Option Value) (base : Heap) (C : Addr) (k : Nat) (sp : Sp) : Prop where
  ex : ∃ f, Mk K C f ∧ FnR P w K mg base CX0 k f sp
theorem IsF.nomem {M : Hp} {fs : List (Str × D)} {ws : List (Str × V)} {m : Str} (h : IsF M fs ws) (e : fs.lookup m = none) : ws.lookup m = none := h.no e
/-- a table of the module: a dict with text keys -/
structure Tbl (K : PySem.W.Frag) (w : World) (a : Addr) (kvs : List (Str × D)) : Prop where
  ex : ∃ es n, KDict K w a es n ∧ ∀ z, ∃ r, PySem.W.nsIn K a z = some r ∧ ((r = none ∧ kvs.lookup z = none) ∨ ∃ u v d, r = some u ∧ kvs.lookup z = some d ∧ RelV v u ∧ ∀ M, Is M d v)
section
variable {X : Cx} {g : Bg} {ρ : List Slot} {e a b c o e1 e2 : Expr} {es rest : List Expr} {P P1 P2 P3 : D → Prop} {Ps : List D → Prop} {d d1 d2 : D} {pos p apos pos' p2 : Pos} {x m : Str} {te : TE} {B : Ba} {σ : L2.St} {M H M' H' : Hp} {v : V} {Q : VK} {ds ds' : List D} {s z : Str} {ss zs : List Str} {i j : Int} {n k : Nat} {C : Addr} {fs : List (Str × D)} {kvs : List (Str × D)}
  {ι : Type} {pre : ι → List D} {post : ι → D → Prop} {b0 : Addr} {ns : Addr × List Int} {vs : List V}
theorem j_f (F : Fd X.prog X.w X.K X.mg X.base x k (Pro pre post)) (hr : Room k X.A) (ha : JA X g ρ (e :: es) Ps) (hp : ∀ ds, Ps ds → ∃ i, ds = pre i ∧ ∀ d, post i d → P d) (hg : Gl X x := by rfl) (hd : (x == ("__debug__" : Str)) = false := by decide)
    (he : starEach (e :: es) X.env = (false, eval e X.env) :: starEach es X.env := by rfl) (hpl : (backTo pos (starEach es X.env)).any (·.1) = false := by rfl) : J X g ρ (.Call (.Name x p) (e :: es) [] pos) P :=
  j_of (pe_f F hr pa_W hg hd he hpl) fun B σ M H E Q q => ha.at_ E fun ds vs M1 H1 p E1 s il => by
    obtain ⟨i, rfl, hp⟩ := hp ds p
    exact ⟨i, M1, E1.at_.sub, il, fun d v M2 H2 p2 s2 i2 => q d v M2 H2 (hp d p2) (s.trans (s2.lift E1.at_)) i2⟩
theorem jd_f (F : Fd X.prog X.w X.K X.mg X.base x k (Pro pre post)) (i : ι) (hr : Room k X.A) (ha : JAD X g ρ (e :: es) (pre i)) (hg : Gl X x := by rfl) (hd : (x == ("__debug__" : Str)) = false := by decide)
    (he : starEach (e :: es) X.env = (false, eval e X.env) :: starEach es X.env := by rfl) (hpl : (backTo pos (starEach es X.env)).any (·.1) = false := by rfl) (hp : ∀ d, post i d → P d := by intro _ h; exact h) : J X g ρ (.Call (.Name x p) (e :: es) [] pos) P :=
  j_f F hr ha (by rintro _ rfl; exact ⟨i, rfl, hp⟩) hg hd he hpl
theorem j_fb (F : Fd X.prog X.w X.K X.mg X.base x k (Dro pre post)) (hr : Room k X.A) (ha : JA X (some (b0, ns)) ρ (e :: es) Ps) (hp : ∀ ds, Ps ds → ∃ i, ds = .adr b0 :: pre i ∧ ∀ d, post i d → P d) (hg : Gl X x := by rfl) (hd : (x == ("__debug__" : Str)) = false := by decide)
    (he : starEach (e :: es) X.env = (false, eval e X.env) :: starEach es X.env := by rfl) (hpl : (backTo pos (starEach es X.env)).any (·.1) = false := by rfl) : J X (some (b0, ns)) ρ (.Call (.Name x p) (e :: es) [] pos) P :=
  j_of (pe_f F hr pa_W hg hd he hpl) fun B σ M H E Q q => ha.at_ E fun ds vs M1 H1 p E1 s il => by
    obtain ⟨i, rfl, hp⟩ := hp ds p
    exact ⟨i, M1, b0, ns, E1.at_, il, fun d v M2 H2 p2 s2 i2 => q d v M2 H2 (hp d p2) (s.trans s2) i2⟩
theorem jd_fb (F : Fd X.prog X.w X.K X.mg X.base x k (Dro pre post)) (i : ι) (hr : Room k X.A) (ha : JAD X (some (b0, ns)) ρ (e :: es) (.adr b0 :: pre i)) (hg : Gl X x := by rfl) (hd : (x == ("__debug__" : Str)) = false := by decide)
    (he : starEach (e :: es) X.env = (false, eval e X.env) :: starEach es X.env := by rfl) (hpl : (backTo pos (starEach es X.env)).any (·.1) = false := by rfl) (hp : ∀ d, post i d → P d := by intro _ h; exact h) : J X (some (b0, ns)) ρ (.Call (.Name x p) (e :: es) [] pos) P :=
  j_fb F hr ha (by rintro _ rfl; exact ⟨i, rfl, hp⟩) hg hd he hpl
/-- a call of a local name that holds a def -/
theorem jd_loc {f : Addr} (sl : Nat) (hs : ρ[sl]? = some (.ro (.adr f))) (F : Ref X.prog X.w X.K X.mg X.base k f (Pro pre post)) (i : ι) (hr : Room k X.A) (ha : JAD X g ρ (e :: es) (pre i)) (hN : X.N[sl]? = some x := by rfl) (hv : Vis X.env.scope x := by first | exact Or.inl rfl | exact Or.inr (Or.inl rfl))
    (hd : (x == ("__debug__" : Str)) = false := by decide) (hcd : (x == ("__classdict__" : Str)) = false := by decide)
    (he : starEach (e :: es) X.env = (false, eval e X.env) :: starEach es X.env := by rfl) (hpl : (backTo pos (starEach es X.env)).any (·.1) = false := by rfl) (hp : ∀ d, post i d → P d := by intro _ h; exact h) : J X g ρ (.Call (.Name x p) (e :: es) [] pos) P :=
  j_of (pe_loc sl hr pa_W hN hv hd hcd he hpl) fun B σ M H E Q q => by
    obtain ⟨v, e1, iv⟩ := E.get hs
    cases iv
    refine ⟨f, _, e1, F, ha.at_ E fun ds vs M1 H1 p E1 s il => ?_⟩
    subst p
    exact ⟨i, M1, E1.at_.sub, il, fun d v M2 H2 p2 s2 i2 => q d v M2 H2 (hp d p2) (s.trans (s2.lift E1.at_)) i2⟩
/-! ### objects -/
theorem jd_fld (h : JD X g ρ e (.ins C fs)) (c : Cls X.K C) (n : NoAttr X.K C m) (hl : fs.lookup m = some d) (hb : attributeBase e m X.env (eval e X.env) = eval e X.env := by rfl) : JD X g ρ (.Attribute e m pos) d :=
  j_of (pe_fld pe_W hb) fun B σ M H E Q q => h.at_ E fun d v M1 H1 p E1 s i => by
    subst p
    cases i with
    | ins e l =>
      obtain ⟨v, e2, i⟩ := l.get hl
      exact ⟨_, _, _, _, v, rfl, E1.at_.sub _ _ e, c, n, e2, (Kn.to q s).here E1.at_ rfl i⟩
theorem jd_me {pl : Sem Bool} (F : Md X.prog X.w X.K X.mg X.base C m k (Pro pre post)) (i : ι) (h : JD X g ρ o (.ins C fs)) (c : Cls X.K C) (hr : Room k X.A) (ha : JAD X g ρ (e :: es) ds) (hl : fs.lookup m = none) (hi : .ins C fs :: ds = pre i)
    (hst : starEach (e :: es) X.env = (false, eval e X.env) :: starEach es X.env := by rfl) (hpl : (backTo pos (starEach es X.env)).any (·.1) = false := by rfl)
    (ht : eval (.Call (.Attribute o m apos) (e :: es) [] pos) X.env = (do
      let z ← eval o X.env
      standAt apos.atName
      let (f, first) ← holding [z] (getMethod z m pl)
      callWith pos f first (backTo pos (starEach (e :: es) X.env)) (backToKw pos (keywordEach [] X.env))) := by rfl) (hp : ∀ d, post i d → P d := by intro _ h; exact h) : J X g ρ (.Call (.Attribute o m apos) (e :: es) [] pos) P := by
  obtain ⟨f, hm, F⟩ := F.ex
  exact j_of (pe_me pe_W c hm F hr pa_W hst hpl ht) fun B σ M H E Q q => h.at_ E fun d v M1 H1 p E1 s iv => by
    subst p
    have iv' := iv
    cases iv with
    | ins e l =>
      refine ⟨_, _, _, rfl, E1.at_.sub _ _ e, l.no hl, ha.at_ E1 fun ds2 vs M2 H2 p2 E2 s2 il => ?_⟩
      subst p2
      exact ⟨i, M2, E2.at_.sub, hi ▸ .cons (iv'.mono s2.mm) il, fun d v M3 H3 p3 s3 i3 => q d v M3 H3 (hp d p3) ((s.trans s2).trans (s3.lift E2.at_)) i3⟩
theorem jd_me0 {pl : Sem Bool} (F : Md X.prog X.w X.K X.mg X.base C m k (Pro pre post)) (i : ι) (h : JD X g ρ o (.ins C fs)) (c : Cls X.K C) (hr : Room k X.A) (hl : fs.lookup m = none) (hi : [.ins C fs] = pre i)
    (ht : eval (.Call (.Attribute o m apos) [] [] pos) X.env = (do
      let z ← eval o X.env
      standAt apos.atName
      let (f, first) ← holding [z] (getMethod z m pl)
      callWith pos f first (backTo pos (starEach [] X.env)) (backToKw pos (keywordEach [] X.env))) := by rfl) (hp : ∀ d, post i d → P d := by intro _ h; exact h) : J X g ρ (.Call (.Attribute o m apos) [] [] pos) P := by
  obtain ⟨f, hm, F⟩ := F.ex
  exact j_of (pe_me0 pe_W c hm F hr ht) fun B σ M H E Q q => h.at_ E fun d v M1 H1 p E1 s iv => by
    subst p
    have iv' := iv
    cases iv with
    | ins e l => exact ⟨_, _, _, rfl, E1.at_.sub _ _ e, l.no hl, i, M1, E1.at_.sub, hi ▸ .cons iv' .nil, fun d v M3 H3 p3 s3 i3 => q d v M3 H3 (hp d p3) (s.trans (s3.lift E1.at_)) i3⟩
theorem jd_pr (F : Pt X.prog X.w X.K X.mg X.base C m k (Pro pre post)) (i : ι) (h : JD X g ρ e (.ins C fs)) (c : Cls X.K C) (hr : Room (k + 1) X.A) (hi : [.ins C fs] = pre i) (hab : attributeBase e m X.env (eval e X.env) = eval e X.env := by rfl) (hq : ∀ d, post i d → P d := by intro _ h; exact h) : J X g ρ (.Attribute e m pos) P := by
  obtain ⟨q, f, hp, F⟩ := F.ex
  exact j_of (pe_pr (b := e) pe_W c hp F hr hab) fun B σ M H E Q q => h.at_ E fun d v M1 H1 p E1 s iv => by
    subst p
    have iv' := iv
    cases iv with
    | ins e l => exact ⟨_, _, _, rfl, E1.at_.sub _ _ e, i, M1, E1.at_.sub, hi ▸ .cons iv' .nil, fun d v M3 H3 p3 s3 i3 => q d v M3 H3 (hq d p3) (s.trans (s3.lift E1.at_)) i3⟩
/-- the promise of an __init__, at the making -/
theorem mk_core (A : At g M H) (i : ι) (il : IsL M (pre i) vs) (q : ∀ d v M' H', post i d → Stp g M H M' H' → Is M' d v → Q v H') : Mkq C (Ini C pre post) vs H Q := fun x dx hx hdx hne =>
  ⟨i, M, H, x, dx, vs, rfl, rfl, hx, hdx, hne, A.sub, il, fun d M' H' p s iv => ⟨rfl, q d _ M' H' p (s.lift A) iv⟩⟩
theorem jd_mk (F : Mc X.prog X.w X.K X.mg X.base C k (Ini C pre post)) (i : ι) (hr : Room (k + 1) X.A) (hm : X.mg x = some (.ref C)) (ha : JAD X g ρ (e :: es) (pre i)) (hg : Gl X x := by rfl)
    (hd : (x == ("__debug__" : Str)) = false := by decide) (he : starEach (e :: es) X.env = (false, eval e X.env) :: starEach es X.env := by rfl)
    (hpl : (backTo pos (starEach es X.env)).any (·.1) = false := by rfl) (hp : ∀ d, post i d → P d := by intro _ h; exact h) : J X g ρ (.Call (.Name x p) (e :: es) [] pos) P := by
  obtain ⟨f, hk, F⟩ := F.ex
  exact j_of (pe_mk hk F hr hg hm pa_W hd he hpl) fun B σ M H E Q q => ha.at_ E fun ds vs M1 H1 p E1 s il => by
    subst p
    exact mk_core E1.at_ i il fun d v M' H' p s2 iv => q d v M' H' (hp d p) (s.trans s2) iv
theorem jd_mkS1 {sp_ : Pos} (F : Mc X.prog X.w X.K X.mg X.base C k (Ini C pre post)) (i : ι) (hr : Room (k + 1) X.A) (hm : X.mg x = some (.ref C)) (h : JD X g ρ e d) (hq : Sq d (pre i) := by first | exact Or.inl rfl | exact Or.inr rfl) (hg : Gl X x := by rfl)
    (hd : (x == ("__debug__" : Str)) = false := by decide) (hst : starEach [.Starred e sp_] X.env = [(true, eval e X.env)] := by rfl) (hp : ∀ d, post i d → P d := by intro _ h; exact h) : J X g ρ (.Call (.Name x p) [.Starred e sp_] [] pos) P := by
  obtain ⟨f, hk, F⟩ := F.ex
  exact j_of (pe_mkS1 hk F hr hg hm pe_W hd hst) fun B σ M H E Q q => h.at_ E fun d v M1 H1 p E1 s iv => by
    subst p
    obtain ⟨a, vs, rfl, il, hx⟩ := E1.at_.sq (X := X) iv hq
    exact ⟨a, vs, rfl, hx.symm, mk_core E1.at_ i il fun d v M' H' p s2 iv => q d v M' H' (hp d p) (s.trans s2) iv⟩
theorem jd_mkS2 (F : Mc X.prog X.w X.K X.mg X.base C k (Ini C pre post)) (i : ι) (hr : Room (k + 1) X.A) (hm : X.mg x = some (.ref C)) (ha : JAD X g ρ (e :: es) (pre i)) (hg : Gl X x := by rfl)
    (hd : (x == ("__debug__" : Str)) = false := by decide) (he : starEach (e :: es) X.env = (false, eval e X.env) :: starEach es X.env := by rfl)
    (hst : (backTo pos (starEach es X.env)).any (·.1) = true := by rfl) (hp : ∀ d, post i d → P d := by intro _ h; exact h) : J X g ρ (.Call (.Name x p) (e :: es) [] pos) P := by
  obtain ⟨f, hk, F⟩ := F.ex
  exact j_of (pe_mkS2 hk F hr hg hm pa_W hd he hst) fun B σ M H E Q q => ha.at_ E fun ds vs M1 H1 p E1 s il => by
    subst p
    exact mk_core E1.at_ i il fun d v M' H' p s2 iv => q d v M' H' (hp d p) (s.trans s2) iv
theorem jd_stm {mc : Value} {q f : Addr} {pl : Sem Bool} (c : Stm X.K C mc m q f) (F : FnR X.prog X.w X.K X.mg X.base CX0 k f (Pro pre post)) (i : ι) (hr : Room k X.A) (hm : X.mg x = some (.ref C)) (ha : JAD X g ρ (e :: es) (pre i)) (hg : Gl X x := by rfl)
    (hd : (x == ("__debug__" : Str)) = false := by decide) (he : starEach (e :: es) X.env = (false, eval e X.env) :: starEach es X.env := by rfl)
    (hpl : (backTo pos (starEach es X.env)).any (·.1) = false := by rfl)
    (ht : eval (.Call (.Attribute (.Name x p) m apos) (e :: es) [] pos) X.env = (do
      let z ← eval (.Name x p) X.env
      standAt apos.atName
      let (f, first) ← holding [z] (getMethod z m pl)
      callWith pos f first (backTo pos (starEach (e :: es) X.env)) (backToKw pos (keywordEach [] X.env))) := by rfl) (hp : ∀ d, post i d → P d := by intro _ h; exact h) : J X g ρ (.Call (.Attribute (.Name x p) m apos) (e :: es) [] pos) P :=
  j_of (pe_stm c F hr hg hm pa_W hd he hpl ht) fun B σ M H E Q q => ha.at_ E fun ds vs M1 H1 p E1 s il => by
    subst p
    exact ⟨i, M1, E1.at_.sub, il, fun d v M2 H2 p2 s2 i2 => q d v M2 H2 (hp d p2) (s.trans (s2.lift E1.at_)) i2⟩
/-- x not in o, o with its own __contains__ -/
theorem jt_hasnot {f : Addr} (c : Has X.K C f) (F : FnR X.prog X.w X.K X.mg X.base CX0 k f (Pro pre post)) (i : ι) (hr : Room k X.A) (ha : JD X g ρ a d) (hb : JD X g ρ b (.ins C fs)) (hi : [.ins C fs, d] = pre i) {u : Bool} (hu : ∀ r, post i r → r = .bl u) (hm : behindInMarks .NotIn b = false := by rfl) :
    JTD X g ρ (.Compare a [.NotIn] [b] pos) (!u) := jt_cmp (op_hasnot c F hr) ha hb (by
  rintro _ _ v1 v2 M H rfl rfl A i1 i2 Q q
  have i2' := i2
  cases i2 with
  | ins e l =>
    refine ⟨_, _, _, rfl, A.sub _ _ e, i, M, A.sub, hi ▸ .cons i2' (.cons i1 .nil), fun d v M3 H3 p3 s3 i3 => ?_⟩
    cases hu d p3
    cases i3
    exact ⟨u, rfl, q _ _ M3 H3 ⟨_, rfl, rfl⟩ (s3.lift A) (.bl _)⟩) hm
/-- o + t, o with its own __add__ -/
theorem jd_plus {f : Addr} {rc : Option Value} (c : Adds X.K C f rc) (F : FnR X.prog X.w X.K X.mg X.base CX0 k f (Pro pre post)) (i : ι) (hr : Room k X.A) (ha : JD X g ρ a (.ins C fs)) (hb : JD X g ρ b (.tup ds)) (hi : [.ins C fs, .tup ds] = pre i) (hx : ∀ d, post i d → ∃ C' fs', d = .ins C' fs') (hp : ∀ d, post i d → P d := by intro _ h; exact h) : J X g ρ (.BinOp a .Add b pos) P := j_op (op_plusOwn c F hr) ha hb (by
  rintro _ _ v1 v2 M H rfl rfl A i1 i2 Q q
  have i1' := i1
  have i2' := i2
  cases i1 with
  | ins e l =>
    cases i2 with
    | tup e2 l2 =>
      refine ⟨_, _, _, _, _, rfl, rfl, A.sub _ _ e, A.sub _ _ e2, i, M, A.sub, hi ▸ .cons i1' (.cons i2' .nil), fun d v M3 H3 p3 s3 i3 => ?_⟩
      obtain ⟨C', fs', rfl⟩ := hx d p3
      have i3' := i3
      cases i3
      exact ⟨_, rfl, q _ _ M3 H3 (hp _ p3) (s3.lift A) i3'⟩)
theorem jd_cc {mc u : Value} (r : ClX.CRead X.K C mc) (c : ClX.CVal X.K C mc m v u) (hm : X.mg x = some (.ref C)) (hi : ∀ M, Is M d v) (hg : Gl X x := by rfl) (hd : (x == ("__debug__" : Str)) = false := by decide)
    (hb : attributeBase (.Name x apos) m X.env (eval (.Name x apos) X.env) = eval (.Name x apos) X.env := by rfl) : JD X g ρ (.Attribute (.Name x apos) m pos) d :=
  j_of (pe_cc hg hm r c hd hb) fun B σ M H E Q q => q.here E.at_ rfl (hi M)
/-! ### isinstance -/
variable (T : Mo X.K X.mg)
/-- a class's name -/
def Nm (X : Cx) (e : Expr) (c : V) : Prop := PE X e (tC c)
theorem jd_isi {cv : V} {t u : Tg} (h : JD X g ρ a d) (hc : Nm X b cv) (hk : ClsV cv (T.val u)) (ht : T.tag d = some t) (hu : u ≠ .non := by decide) (hg : Gl X "isinstance" := by rfl)
    (he : starEach [a, b] X.env = (false, eval a X.env) :: starEach [b] X.env := by rfl) (he2 : starEach [b] X.env = (false, eval b X.env) :: starEach [] X.env := by rfl) (hpl : (backTo pos (starEach [b] X.env)).any (·.1) = false := by rfl) :
    JD X g ρ (.Call (.Name "isinstance" p) [a, b] [] pos) (.bl (t.is u)) :=
  j_of (pe_callB call_isi hg T.isinstance bt_isinstance (pa_cons pe_W (pa_cons hc pa_nil he2) he) (he := he) (hpl := hpl)) fun B σ M H E Q q => h.at_ E fun d v M1 H1 p E1 s i => by
    subst p
    exact ⟨v, cv, _, _, _, rfl, hk, T.ty E1.at_ i ht, T.one t u hu, (Kn.to q s).here E1.at_ rfl (.bl _)⟩

theorem jd_isiT {c1 c2 : Expr} {kk : Nat} {v1 v2 : V} {t u w : Tg} (h : JD X g ρ a d) (hc1 : Nm X c1 v1) (hc2 : Nm X c2 v2) (hk1 : ClsV v1 (T.val u)) (hk2 : ClsV v2 (T.val w)) (ht : T.tag d = some t) (hu : u ≠ .non := by decide) (hw : w ≠ .non := by decide) (hg : Gl X "isinstance" := by rfl)
    (he : starEach [a, .Tuple [c1, c2] kk p2] X.env = (false, eval a X.env) :: starEach [.Tuple [c1, c2] kk p2] X.env := by rfl) (he2 : starEach [.Tuple [c1, c2] kk p2] X.env = (false, eval (.Tuple [c1, c2] kk p2) X.env) :: starEach [] X.env := by rfl) (hpl : (backTo pos (starEach [.Tuple [c1, c2] kk p2] X.env)).any (·.1) = false := by rfl)
    (h1 : starEach [c1, c2] X.env = (false, eval c1 X.env) :: starEach [c2] X.env := by rfl) (h2 : starEach [c2] X.env = (false, eval c2 X.env) :: starEach [] X.env := by rfl) :
    JD X g ρ (.Call (.Name "isinstance" p) [a, .Tuple [c1, c2] kk p2] [] pos) (.bl (t.is u || t.is w)) :=
  j_of (pe_callB call_isiT hg T.isinstance bt_isinstance (pa_cons pe_W (pa_cons (pe_tup (pa_cons hc1 (pa_cons hc2 pa_nil h2) h1)) pa_nil he2) he) (he := he) (hpl := hpl)) fun B σ M H E Q q => h.at_ E fun d v M1 H1 p E1 s i => by
    subst p
    refine ⟨by show 2 ≤ sizeLine; decide, fun r hr => ?_⟩
    have t1 := Stp.tmp (g := g) E1.at_ hr (.tup [v1, v2])
    refine ⟨v, r, [v1, v2], _, [T.val u, T.val w], _, rfl, upd_same, .cons hk1 (.cons hk2 .nil), T.ty (E1.step t1).at_ i ht, ?_, (Kn.to q (s.trans t1)).here (E1.step t1).at_ rfl (.bl _)⟩
    show (match PySem.W.kitOne X.K (T.val t) (T.val u) with | some true => some true | some false => PySem.W.kitAny X.K (T.val t) [T.val w] | none => none) = _
    rw [T.one t u hu]
    cases t.is u with
    | true => rfl
    | false =>
      show (match PySem.W.kitOne X.K (T.val t) (T.val w) with | some true => some true | some false => PySem.W.kitAny X.K (T.val t) [] | none => none) = _
      rw [T.one t w hw]
      cases t.is w <;> rfl
include T
theorem nm_int (hg : Gl X "int" := by rfl) : Nm X (.Name "int" pos) (.ty "int") := pe_bltn hg T.int bt_int rfl
theorem nm_list (hg : Gl X "list" := by rfl) : Nm X (.Name "list" pos) (.ty "list") := pe_bltn hg T.list bt_list rfl
theorem nm_tuple (hg : Gl X "tuple" := by rfl) : Nm X (.Name "tuple" pos) (.ty "tuple") := pe_bltn hg T.tuple bt_tuple rfl
theorem nm_bool (hg : Gl X "bool" := by rfl) : Nm X (.Name "bool" pos) (.ty "bool") := pe_bltn hg T.bool bt_bool rfl
theorem nm_str (hg : Gl X "str" := by rfl) : Nm X (.Name "str" pos) (.ty "str") := pe_bltn hg T.str bt_str rfl
theorem nm_dict (hg : Gl X "dict" := by rfl) : Nm X (.Name "dict" pos) (.ty "dict") := pe_bltn hg T.dict bt_dict rfl
theorem nm_Row (hg : Gl X "Row" := by rfl) : Nm X (.Name "Row" pos) (.ref T.cR) := pe_glob hg T.gR rfl
theorem nm_Order (hg : Gl X "Order" := by rfl) : Nm X (.Name "Order" pos) (.ref T.cO) := pe_glob hg T.gO rfl
theorem isi_int (h : JD X g ρ a d) {t : Tg} (ht : T.tag d = some t) (hg : Gl X "isinstance" := by rfl) (hg2 : Gl X "int" := by rfl) (he : starEach [a, .Name "int" p2] X.env = (false, eval a X.env) :: starEach [.Name "int" p2] X.env := by rfl) (he2 : starEach [.Name "int" p2] X.env = (false, eval (.Name "int" p2) X.env) :: starEach [] X.env := by rfl) (hpl : (backTo pos (starEach [.Name "int" p2] X.env)).any (·.1) = false := by rfl) : JD X g ρ (.Call (.Name "isinstance" p) [a, .Name "int" p2] [] pos) (.bl (t.is .int)) := jd_isi T h (nm_int T hg2) (.ty _) ht (by decide) hg he he2 hpl
theorem isi_list (h : JD X g ρ a d) {t : Tg} (ht : T.tag d = some t) (hg : Gl X "isinstance" := by rfl) (hg2 : Gl X "list" := by rfl) (he : starEach [a, .Name "list" p2] X.env = (false, eval a X.env) :: starEach [.Name "list" p2] X.env := by rfl) (he2 : starEach [.Name "list" p2] X.env = (false, eval (.Name "list" p2) X.env) :: starEach [] X.env := by rfl) (hpl : (backTo pos (starEach [.Name "list" p2] X.env)).any (·.1) = false := by rfl) : JD X g ρ (.Call (.Name "isinstance" p) [a, .Name "list" p2] [] pos) (.bl (t.is .lst)) := jd_isi T h (nm_list T hg2) (.ty _) ht (by decide) hg he he2 hpl
theorem isi_tuple (h : JD X g ρ a d) {t : Tg} (ht : T.tag d = some t) (hg : Gl X "isinstance" := by rfl) (hg2 : Gl X "tuple" := by rfl) (he : starEach [a, .Name "tuple" p2] X.env = (false, eval a X.env) :: starEach [.Name "tuple" p2] X.env := by rfl) (he2 : starEach [.Name "tuple" p2] X.env = (false, eval (.Name "tuple" p2) X.env) :: starEach [] X.env := by rfl) (hpl : (backTo pos (starEach [.Name "tuple" p2] X.env)).any (·.1) = false := by rfl) : JD X g ρ (.Call (.Name "isinstance" p) [a, .Name "tuple" p2] [] pos) (.bl (t.is .tup)) := jd_isi T h (nm_tuple T hg2) (.ty _) ht (by decide) hg he he2 hpl
theorem isi_bool (h : JD X g ρ a d) {t : Tg} (ht : T.tag d = some t) (hg : Gl X "isinstance" := by rfl) (hg2 : Gl X "bool" := by rfl) (he : starEach [a, .Name "bool" p2] X.env = (false, eval a X.env) :: starEach [.Name "bool" p2] X.env := by rfl) (he2 : starEach [.Name "bool" p2] X.env = (false, eval (.Name "bool" p2) X.env) :: starEach [] X.env := by rfl) (hpl : (backTo pos (starEach [.Name "bool" p2] X.env)).any (·.1) = false := by rfl) : JD X g ρ (.Call (.Name "isinstance" p) [a, .Name "bool" p2] [] pos) (.bl (t.is .bl)) := jd_isi T h (nm_bool T hg2) (.ty _) ht (by decide) hg he he2 hpl
theorem isi_str (h : JD X g ρ a d) {t : Tg} (ht : T.tag d = some t) (hg : Gl X "isinstance" := by rfl) (hg2 : Gl X "str" := by rfl) (he : starEach [a, .Name "str" p2] X.env = (false, eval a X.env) :: starEach [.Name "str" p2] X.env := by rfl) (he2 : starEach [.Name "str" p2] X.env = (false, eval (.Name "str" p2) X.env) :: starEach [] X.env := by rfl) (hpl : (backTo pos (starEach [.Name "str" p2] X.env)).any (·.1) = false := by rfl) : JD X g ρ (.Call (.Name "isinstance" p) [a, .Name "str" p2] [] pos) (.bl (t.is .str)) := jd_isi T h (nm_str T hg2) (.ty _) ht (by decide) hg he he2 hpl
theorem isi_dict (h : JD X g ρ a d) {t : Tg} (ht : T.tag d = some t) (hg : Gl X "isinstance" := by rfl) (hg2 : Gl X "dict" := by rfl) (he : starEach [a, .Name "dict" p2] X.env = (false, eval a X.env) :: starEach [.Name "dict" p2] X.env := by rfl) (he2 : starEach [.Name "dict" p2] X.env = (false, eval (.Name "dict" p2) X.env) :: starEach [] X.env := by rfl) (hpl : (backTo pos (starEach [.Name "dict" p2] X.env)).any (·.1) = false := by rfl) : JD X g ρ (.Call (.Name "isinstance" p) [a, .Name "dict" p2] [] pos) (.bl (t.is .dic)) := jd_isi T h (nm_dict T hg2) (.ty _) ht (by decide) hg he he2 hpl
theorem isi_Row (h : JD X g ρ a d) {t : Tg} (ht : T.tag d = some t) (hg : Gl X "isinstance" := by rfl) (hg2 : Gl X "Row" := by rfl) (he : starEach [a, .Name "Row" p2] X.env = (false, eval a X.env) :: starEach [.Name "Row" p2] X.env := by rfl) (he2 : starEach [.Name "Row" p2] X.env = (false, eval (.Name "Row" p2) X.env) :: starEach [] X.env := by rfl) (hpl : (backTo pos (starEach [.Name "Row" p2] X.env)).any (·.1) = false := by rfl) : JD X g ρ (.Call (.Name "isinstance" p) [a, .Name "Row" p2] [] pos) (.bl (t.is .row)) := jd_isi T h (nm_Row T hg2) (.own _) ht (by decide) hg he he2 hpl
theorem isi_Order (h : JD X g ρ a d) {t : Tg} (ht : T.tag d = some t) (hg : Gl X "isinstance" := by rfl) (hg2 : Gl X "Order" := by rfl) (he : starEach [a, .Name "Order" p2] X.env = (false, eval a X.env) :: starEach [.Name "Order" p2] X.env := by rfl) (he2 : starEach [.Name "Order" p2] X.env = (false, eval (.Name "Order" p2) X.env) :: starEach [] X.env := by rfl) (hpl : (backTo pos (starEach [.Name "Order" p2] X.env)).any (·.1) = false := by rfl) : JD X g ρ (.Call (.Name "isinstance" p) [a, .Name "Order" p2] [] pos) (.bl (t.is .ord)) := jd_isi T h (nm_Order T hg2) (.own _) ht (by decide) hg he he2 hpl
/-! ### list(d), list(d.items()) -/
omit T
theorem IsK.keys {ws : List (Key × V)} : ∀ {kvs : List (Str × D)} {ws : List (Key × V)}, IsK M kvs ws → ws.map (fun kv => kV kv.1) = kvs.map fun kv => V.str kv.1
  | _, _, .nil => rfl
  | _, _, .cons h t => by rw [List.map_cons, List.map_cons, t.keys (ws := ws)]; rfl
include T
theorem jd_listD (hc : X.calm = true) (h : JD X g ρ e (.dic kvs)) (hg : Gl X "list" := by rfl) (he : starEach [e] X.env = (false, eval e X.env) :: starEach [] X.env := by rfl) : JD X g ρ (.Call (.Name "list" p) [e] [] pos) (.lst ((kvs.map Prod.fst).map D.str)) :=
  j_callTy (call_list_dK hc) T.list bt_list (ja_cons h ja_nil he) (rc1 (by
    rintro _ v M H rfl A i Q k
    cases i with
    | dic e il =>
      refine ⟨_, _, rfl, A.sub _ _ e, fun q hq => ?_⟩
      have e2 := il.keys (ws := [])
      rw [e2]
      refine k.new A hq rfl fun M' s h => .lst h ?_
      have := IsL.ofStrs (M := M') (kvs.map Prod.fst)
      rw [List.map_map, List.map_map] at this
      rw [List.map_map]
      exact this)) hg (he := he)
omit T
theorem items_is : ∀ {kvs : List (Str × D)} {ws : List (Key × V)} {ts : List Addr}, IsK M kvs ws → Paired (fun (t : Addr) (q : Key × V) => M t = some (.tup [kV q.1, q.2])) ts ws → IsL M (kvs.map fun kv => D.tup [.str kv.1, kv.2]) (ts.map V.ref)
  | _, _, _, .nil, .nil => .nil
  | _, _, _, .cons h t, .cons r s => .cons (.tup r (.cons (.str _) (.cons h .nil))) (items_is t s)
/-- many new things at once that stand for good -/
theorem Stp.news (h : At g M H) (k : ∀ b o, H b = some o → H' b = some o) : Stp g M H (fun b => if H b = none then H' b else M b) H' := by
  refine ⟨⟨fun b u e => ?_, fun b ns e => ?_⟩, fun b u e => ?_, fun b h1 h2 => ?_, fun b u e _ => k b u e, fun b h1 => ?_⟩
  · by_cases q : H b = none
    · simp only [q, if_true] at e
      exact e
    · simp only [q, if_false] at e
      exact k b u (h.sub b u e)
  · obtain ⟨h1, i, c, z, n, h2, h3, h4⟩ := h.bag b ns e
    refine ⟨?_, i, c, z, n, k _ _ h2, ?_, h4⟩
    · simp only [some_ne h2, if_false]
      exact h1
    · simp only [some_ne (h.sub _ _ h3), if_false]
      exact h3
  · simp only [some_ne (h.sub _ _ e), if_false]
    exact e
  · simp only [h1, if_false]
    exact h2
  · cases q : H b with
    | none => exact absurd q h1
    | some o => exact some_ne (k b o q)
include T
theorem jd_items {cpos : Pos} (hc : X.calm = true) (h : JD X g ρ e (.dic kvs)) (hg : Gl X "list" := by rfl) (hbase : attributeBase e "items" X.env (eval e X.env) = eval e X.env := by rfl) (hline : (apos.endLine == cpos.line) = true := by rfl)
    (hs : starEach [.Call (.Attribute e "items" apos) [] [] cpos] X.env = (false, eval (.Call (.Attribute e "items" apos) [] [] cpos) X.env) :: starEach [] X.env := by rfl) :
    JD X g ρ (.Call (.Name "list" p) [.Call (.Attribute e "items" apos) [] [] cpos] [] pos) (.lst (kvs.map fun kv => .tup [.str kv.1, kv.2])) :=
  j_of (LiI.pe_listItems hc pe_W hg T.list bt_list hbase hline hs) fun B σ M H E Q q => h.at_ E fun d v M1 H1 p E1 s i => by
    subst p
    cases i with
    | dic e il =>
      refine ⟨_, _, rfl, E1.at_.sub _ _ e, fun H' r ts kp hr ht hn hr2 pr => ?_⟩
      have st := Stp.news (g := g) E1.at_ kp
      have g1 : ∀ t ∈ r :: ts, (fun b => if H1 b = none then H' b else M1 b) t = H' t := fun t hm => by
        have : H1 t = none := by
          rcases List.mem_cons.mp hm with rfl | hm
          · exact hr
          · exact ht t hm
        simp only [this, if_true]
      refine q _ _ _ _ rfl (s.trans st) (.lst ((g1 r List.mem_cons_self).trans hr2) (items_is (il.mono st.mm) ?_))
      have : ∀ {ts : List Addr} {ws : List (Key × V)}, (∀ t ∈ ts, (fun b => if H1 b = none then H' b else M1 b) t = H' t) → Paired (fun (t : Addr) (q : Key × V) => H' t = some (.tup [kV q.1, q.2])) ts ws → Paired (fun (t : Addr) (q : Key × V) => (fun b => if H1 b = none then H' b else M1 b) t = some (.tup [kV q.1, q.2])) ts ws := by
        intro ts ws hm pr
        induction pr with
        | nil => exact .nil
        | cons a t ih => exact .cons ((hm _ List.mem_cons_self).trans a) (ih fun t h => hm t (List.mem_cons_of_mem _ h))
      exact this (fun t hm => g1 t (List.mem_cons_of_mem _ hm)) pr
/-! ### texts -/
omit T
theorem jd_join (ho : JD X g ρ o (.str s)) (he : JD X g ρ e d) (hz : (ss.map (·.length)).sum + ss.length * s.length ≤ 16777216) (hq : Sq d (ss.map D.str) := by first | exact Or.inl rfl | exact Or.inr rfl) (hs : starEach [e] X.env = [(false, eval e X.env)] := by rfl) (hbase : attributeBase o "join" X.env (eval o X.env) = eval o X.env := by rfl) (hline : (apos.endLine == pos.line) = true := by rfl) :
    JD X g ρ (.Call (.Attribute o "join" apos) [e] [] pos) (.str (Txt.join s ss)) := j_of (pe_join pe_W pe_W hs hbase hline) fun B σ M H E Q q => ho.at_ E fun d v M1 H1 p E1 s1 i1 => by
  subst p
  cases i1
  refine ⟨⟨_, rfl⟩, he.at_ E1 fun d v M2 H2 p E2 s2 i2 => ?_⟩
  subst p
  obtain ⟨l, vs, rfl, il, hx⟩ := E2.at_.sq (X := X) i2 hq
  obtain rfl := il.strs
  exact ⟨s, l, ss, rfl, rfl, hx, hz, (Kn.to q (s1.trans s2)).here E2.at_ rfl (.str _)⟩
theorem jd_split (ho : JD X g ρ o (.str s)) (he : JD X g ρ e (.str z)) (hz : (z.length == 0) = false) (hl : s.length + 2 ≤ sizeLine) (hs : starEach [e] X.env = [(false, eval e X.env)] := by rfl) (hbase : attributeBase o "split" X.env (eval o X.env) = eval o X.env := by rfl) (hline : (apos.endLine == pos.line) = true := by rfl) :
    JD X g ρ (.Call (.Attribute o "split" apos) [e] [] pos) (.lst ((Txt.split s z).map D.str)) := j_of (pe_split pe_W pe_W hs hbase hline) fun B σ M H E Q q => ho.at_ E fun d v M1 H1 p E1 s1 i1 => by
  subst p
  cases i1
  refine ⟨⟨_, rfl⟩, he.at_ E1 fun d v M2 H2 p E2 s2 i2 => ?_⟩
  subst p
  cases i2
  exact ⟨s, z, rfl, rfl, hz, hl, fun r hr => (Kn.to q (s1.trans s2)).new E2.at_ hr rfl fun M' s h => .lst h (.ofStrs _)⟩
/-! ### {key: value}, one text key -/
theorem jp_dic1 {kx vx : Expr} {kp : Pos} {kk} (hv : J X g ρ vx P1) (k : ∀ d, P1 d → P (.dic [(s, d)])) : J X g ρ (.Dict [some (.Constant (.str s) kk kp)] [vx] pos) P :=
  j_of (pe_disp (pps_cons pe_str pe_W pps_nil) rfl rfl (fun z => nomatch z) (by show 1 ≤ 15; decide)) fun B σ M H E Q q => by
    intro r hr
    have t1 := Stp.tmp (g := g) E.at_ hr (.dK [])
    have E1 := E.step t1
    refine hv.at_ E1 fun d v M2 H2 p E2 s2 i2 => ?_
    have hb := notbag E.at_ hr
    have e2 : H2 r = some (.dK []) := s2.hh r _ upd_same hb
    have m2 : M2 r = none := s2.fr r (some_ne (o := .dK []) upd_same) (E.at_.freeM hr)
    refine ⟨e2, [(Sum.inr s, v)], rfl, (by show 1 ≤ 15; decide), ?_⟩
    have st := (t1.trans s2).put hr m2 hb (.dK (mergeK [] [(Sum.inr s, v)]))
    have sf := st.frz hr m2 upd_same hb
    exact q _ _ _ _ (k d p) sf (.dic upd_same (.cons (i2.mono fun b u e => by rw [upd_ne (ne_of_none e m2)]; exact e) .nil))
/-! ### a table of the module -/
theorem jd_tget {ta : Addr} (hb : JD X g ρ b (.str s)) (ha : JD X g ρ a (.adr ta)) (D : Tbl X.K X.w ta kvs) (h : kvs.lookup s = some d) (hs : PlainIx b := by intro _ _; rfl) : JD X g ρ (.Subscript a b pos) d := by
  obtain ⟨es, n, kd, hz⟩ := D.ex
  exact j_of (pe_ix ix_kdict pe_W pe_W hs) fun B σ M H E Q q => ha.at_ E fun d1 v1 M1 H1 p1 E1 s1 i1 => hb.at_ E1 fun d2 v2 M2 H2 p2 E2 s2 i2 => by
    subst p1 p2
    cases i1
    cases i2
    obtain ⟨r, e1, e2⟩ := hz s
    rcases e2 with ⟨_, e3⟩ | ⟨u, v, d', rfl, e3, rv, hi⟩
    · rw [h] at e3; cases e3
    · rw [h] at e3
      cases e3
      exact ⟨ta, s, v, rfl, rfl, ⟨es, n, u, kd.at_, kd.lit, e1, rv⟩, (Kn.to q (s1.trans s2)).here E2.at_ rfl (hi _)⟩
theorem jt_tnin {ta : Addr} (ha : JD X g ρ a (.str s)) (hb : JD X g ρ b (.adr ta)) (D : Tbl X.K X.w ta kvs) (hm : behindInMarks .NotIn b = false := by rfl) : JTD X g ρ (.Compare a [.NotIn] [b] pos) (!(kvs.lookup s).isSome) := by
  obtain ⟨es, n, kd, hz⟩ := D.ex
  exact jt_cmp (op_notIn_kd kd) ha hb (by
    rintro _ _ v1 v2 M H rfl rfl A i1 i2 Q q
    cases i1
    cases i2
    obtain ⟨r, e1, e2⟩ := hz s
    have e : r.isSome = (kvs.lookup s).isSome := by
      rcases e2 with ⟨rfl, e3⟩ | ⟨u, v, d', rfl, e3, _⟩ <;> rw [e3] <;> rfl
    exact ⟨s, r, rfl, rfl, e1, by rw [e]; exact q.here A ⟨_, rfl, rfl⟩ (.bl _)⟩) hm

/-- a <= b <= c -/
theorem jt_le2 {i j k : Int} {c : Expr} (ha : JD X g ρ a (.int i)) (hb : JD X g ρ b (.int j)) (hc : JD X g ρ c (.int k)) (hm : lastMarks [.LtE, .LtE] [b, c] = false := by with_unfolding_all rfl) : JTD X g ρ (.Compare a [.LtE, .LtE] [b, c] pos) (decide (i ≤ j) && decide (j ≤ k)) :=
  jt_of (pt_chain op_le op_le pe_W pe_W pe_W hm) fun B σ M H E Q q => ha.at_ E fun d1 v1 M1 H1 p1 E1 s1 i1 => hb.at_ E1 fun d2 v2 M2 H2 p2 E2 s2 i2 => by
    subst p1 p2
    cases i1
    cases i2
    refine ⟨i, j, rfl, rfl, _, rfl, ?_⟩
    by_cases h : decide (i ≤ j) = true
    · rw [if_pos h]
      refine hc.at_ E2 fun d3 v3 M3 H3 p3 E3 s3 i3 => ?_
      subst p3
      cases i3
      exact ⟨j, k, rfl, rfl, _, rfl, q _ M3 H3 (by rw [h]; rfl) ((s1.trans s2).trans s3)⟩
    · rw [if_neg h]
      exact ⟨_, rfl, q _ M2 H2 (by rw [ff_of h]; rfl) (s1.trans s2)⟩
end
end FD
end
section
set_option maxHeartbeats 2000000
/-! targets, walks, comprehensions -/
namespace FD
open PySem PySem.Spec PyProof.Rows L2
/-- a list, a tuple or a text that is walked -/
theorem pi_any {X : Cx} {tg l : Expr} {tl : TE} (hl : PE X l tl) : PI X tg l (fun σ H R => tl σ H fun x H1 => (∃ a, x = .ref a ∧ (∃ xs, SqL X.K H1 a xs) ∧ R (Itl X.K a) H1) ∨ (∃ a, x = .ref a ∧ (∃ xs, SqT X.K H1 a xs) ∧ R (Itt X.K a) H1) ∨ ∃ z, x = .str z ∧ R (Its z) H1) := by
  refine ⟨fun pins s σ H R I h => ?_⟩
  refine thn (hl.run pins s σ H _ I h) fun v s1 ⟨x, H1, I1, r1, q1⟩ => ?_
  rcases q1 with ⟨a, e, ⟨xs, hq⟩, q⟩ | ⟨a, e, ⟨xs, hq⟩, q⟩ | ⟨z, ez, q⟩
  · subst e
    cases r1
    obtain ⟨its, rv, p, hz⟩ := I1.list hq
    refine wpAny_pyIter_list p.isList ?_
    refine ⟨s1.heap.objs.size, [s1.heap.objs.size], _, _, H1, rfl, I1.kept (t' := s1.toks) fun b o e => Heap.get?_push_of_some _ e, turn_list a _, ⟨_, Heap.get?_push_size _ rfl, rfl, rfl⟩, fun b hb => ?_, q⟩
    have e : b = s1.heap.objs.size := by simpa using hb
    subst e
    exact I1.fpOk (Nat.le_refl _) (I1.hok.fresh (Nat.le_refl _))
  · subst e
    cases r1
    obtain ⟨its, rv, p, hz⟩ := I1.tuple hq
    refine wpAny_pyIter_tuple (show s1.heap.IsTuple a its.toArray from p) ?_
    refine ⟨s1.heap.objs.size, [s1.heap.objs.size], _, _, H1, rfl, I1.kept (t' := s1.toks) fun b o e => Heap.get?_push_of_some _ e, turn_tuple a _, ⟨_, Heap.get?_push_size _ rfl, rfl, rfl⟩, fun b hb => ?_, q⟩
    have e : b = s1.heap.objs.size := by simpa using hb
    subst e
    exact I1.fpOk (Nat.le_refl _) (I1.hok.fresh (Nat.le_refl _))
  · subst ez
    obtain ⟨t, rfl⟩ := r1
    cases ha : z.cps.all (· < 128)
    · exact wpAny_pyIter_wide ha (pi_one (tk := s1.toks) I1 _ (turn_str _ z t "str_iterator" (.inr rfl)) ⟨_, Heap.get?_push_size _ rfl, rfl, rfl⟩ q)
    · exact wpAny_pyIter_ascii ha (pi_one (tk := s1.toks) I1 _ (turn_str _ z t "str_ascii_iterator" (.inl rfl)) ⟨_, Heap.get?_push_size _ rfl, rfl, rfl⟩ q)
theorem walk_zipT {K : PySem.W.Frag} {a b : Addr} {xs ys : List V} {n : Nat} (hn : n = min xs.length ys.length) : Walk (RZ.ItzT K a b) n (fun H => SqT K H a xs ∧ SqT K H b ys) (YPair (fun i => xs[i]?) (fun i => ys[i]?)) := by
  subst hn
  refine ⟨fun i _ hi q => ?_, fun _ q => ⟨xs, ys, q.1, q.2, by omega⟩, fun i H v H' _ q y => ?_⟩
  · have h1 : i < xs.length := by omega
    have h2 : i < ys.length := by omega
    exact ⟨xs, ys, xs[i], ys[i], q.1, q.2, by simp [h1], by simp [h2]⟩
  · obtain ⟨T, x, z, h1, h2, h3, h4, h5⟩ := y
    exact ⟨T, x, z, h1, h2, h3, h4 xs q.1, h5 ys q.2⟩
section
variable {X : Cx} {g : Bg} {ρ ρ1 ρ2 : List Slot} {e a b c o e1 e2 elt tg iter : Expr} {es rest ifs : List Expr} {P P1 P2 P3 : D → Prop} {Ps Pi : List D → Prop} {d d1 d2 : D} {pos p apos pos' p2 tpos : Pos} {x y m : Str} {te : TE} {B : Ba} {σ : L2.St} {M H M' H' : Hp} {v : V} {Q : VK} {ds ds' its : List D} {s z : Str} {ss zs : List Str} {i j : Nat} {n k : Nat} {vs : List Nat} {scope : Scope} {own : List (Str × Nat)}
/-! ### targets -/
theorem wipe_set (σ : L2.St) (i : Nat) (o : Option V) : ∀ {vs : List Nat}, i ∈ vs → L2.wipe (σ.set i o) vs = L2.wipe σ vs
  | [], h => nomatch h
  | v :: vs, h => by
    unfold L2.wipe
    by_cases q : i ∈ vs
    · rw [wipe_set σ i o q]
    · have e : i = v := by
        rcases List.mem_cons.mp h with e | e
        · exact e
        · exact absurd e q
      subst e
      have : ∀ {ws : List Nat}, i ∉ ws → L2.wipe (σ.set i o) ws = (L2.wipe σ ws).set i o := by
        intro ws
        induction ws with
        | nil => intro _; rfl
        | cons w ws ih =>
          intro hn
          have h1 : i ≠ w := fun e => hn (e ▸ List.mem_cons_self)
          unfold L2.wipe
          rw [ih fun z => hn (List.mem_cons_of_mem _ z), List.set_comm _ _ h1]
      rw [this q, List.set_set]
theorem jg_name {i : Nat} (hN : X.N.Nodup) (hi : X.N[i]? = some x) (hx : Loc X.env.scope x) (hm : i ∈ vs) (hf : X.fn x = true ∨ X.env.scope.names.lookup x = some .local := by first | exact .inl rfl | exact .inr rfl | assumption) : JG X g ρ vs (.Name x pos) d (ρ.set i (.ro d)) :=
  .mk fun B σ M H v Q E iv q => w_g (pg_name hN hi hx hf) (q _ (wipe_set σ i _ hm) (E.ro i iv))
/-- a, b = .. -/
theorem jg_two {i j : Nat} {p1 p2 : Pos} {k : Nat} (hc : X.calm = true) (hN : X.N.Nodup) (hi : X.N[i]? = some x) (hx : Loc X.env.scope x) (hj : X.N[j]? = some y) (hy : Loc X.env.scope y) (hm : i ∈ vs) (hm2 : j ∈ vs) (hq : d = .tup [d1, d2])
    (hf : X.fn x = true ∨ X.env.scope.names.lookup x = some .local := by first | exact .inl rfl | exact .inr rfl | assumption) (hf2 : X.fn y = true ∨ X.env.scope.names.lookup y = some .local := by first | exact .inl rfl | exact .inr rfl | assumption)
    (hn : (assignEach [.Name x p1, .Name y p2] X.env).length = 2 := by rfl) (hst : (assignEach [.Name x p1, .Name y p2] X.env).findIdx? (·.1) = none := by rfl)
    (hs : (assignEach [.Name x p1, .Name y p2] X.env).map (·.2) = assign (.Name x p1) X.env :: (assignEach [.Name y p2] X.env).map (·.2) := by rfl) (hs2 : (assignEach [.Name y p2] X.env).map (·.2) = assign (.Name y p2) X.env :: (assignEach [] X.env).map (·.2) := by rfl) :
    JG X g ρ vs (.Tuple [.Name x p1, .Name y p2] k pos) d ((ρ.set i (.ro d1)).set j (.ro d2)) := .mk fun B σ M H v Q E iv q => by
  subst hq
  refine w_g (pg_tup hc (pgs_cons (pg_name hN hi hx hf) (pgs_cons (pg_name hN hj hy hf2) pgs_nil hs2) hs) hn hst) ?_
  cases iv with
  | tup e l =>
    cases l with
    | cons h1 t =>
      cases t with
      | cons h2 t =>
        cases t
        exact ⟨_, _, rfl, SqT.of (E.at_.sub _ _ e), rfl, _, _, rfl, _, _, rfl, rfl, q _ ((wipe_set _ j _ hm2).trans (wipe_set σ i _ hm)) ((E.ro i h1).ro j h2)⟩
/-! ### walks -/
theorem ji_seq (h : J X g ρ e P) (hk : ∀ d, P d → ∃ ds, Sq d ds ∧ ds.length ≤ 1000000 ∧ Pi ds) : JI X g ρ tg e Pi := .mk fun B σ M H E R q => w_i (pi_any pe_W) (h.at_ E fun d v M1 H1 p E1 s i => by
  obtain ⟨ds, hq, hz, hp⟩ := hk d p
  rcases hq with rfl | rfl
  · cases i with
    | @lst a _ vs e il =>
      refine .inl ⟨a, rfl, ⟨vs, SqL.of (E1.at_.sub _ _ e)⟩, q ds _ (fun H => SqL X.K H a vs) (YAt vs) M1 H1 hp s (il.length ▸ walk_list) hz (fun M2 H2 s2 A2 => SqL.of (A2.sub _ _ (s2 _ _ e))) fun i M2 H2 x H3 hi s2 A2 y => ?_⟩
      obtain ⟨rfl, hx⟩ := y
      obtain ⟨d, h1, h2⟩ := il.back hx
      exact ⟨M2, d, h1, Stp.refl A2, h2.mono s2⟩
  · cases i with
    | @tup a _ vs e il =>
      refine .inr (.inl ⟨a, rfl, ⟨vs, SqT.of (E1.at_.sub _ _ e)⟩, q ds _ (fun H => SqT X.K H a vs) (YAt vs) M1 H1 hp s (il.length ▸ walk_tup) hz (fun M2 H2 s2 A2 => SqT.of (A2.sub _ _ (s2 _ _ e))) fun i M2 H2 x H3 hi s2 A2 y => ?_⟩)
      obtain ⟨rfl, hx⟩ := y
      obtain ⟨d, h1, h2⟩ := il.back hx
      exact ⟨M2, d, h1, Stp.refl A2, h2.mono s2⟩)
abbrev JID (X : Cx) (g : Bg) (ρ : List Slot) (tg iter : Expr) (its : List D) : Prop := JI X g ρ tg iter (fun z => z = its)
theorem ji (h : JD X g ρ e d) (hz : ds.length ≤ 1000000) (hq : Sq d ds := by first | exact Or.inl rfl | exact Or.inr rfl) : JID X g ρ tg e ds := ji_seq h (by rintro _ rfl; exact ⟨ds, hq, hz, rfl⟩)
/-- the signs of a text -/
def sgn (z : Str) : List D := z.cps.toList.map fun c => .str ⟨#[c]⟩
theorem ji_str (h : JD X g ρ e (.str z)) (hz : z.length ≤ 1000000) : JID X g ρ tg e (sgn z) := .mk fun B σ M H E R q => w_i (pi_any pe_W) (h.at_ E fun d v M1 H1 p E1 s i => by
  subst p
  cases i
  have hl : (sgn z).length = z.cps.size := by simp [sgn]
  refine .inr (.inr ⟨z, rfl, q (sgn z) _ (fun _ => True) _ M1 H1 rfl s (hl ▸ walk_str) (by rw [hl]; exact hz) (fun _ _ _ _ => trivial) fun i M2 H2 x H3 hi s2 A2 y => ?_⟩)
  obtain ⟨rfl, c, hc, rfl⟩ := y
  refine ⟨M2, .str ⟨#[c]⟩, ?_, Stp.refl A2, .str _⟩
  unfold sgn
  rw [List.getElem?_map, Array.getElem?_toList, hc]
  rfl)
def rng (n : Nat) : List D := (List.range n).map fun i => .int (i : Nat)
theorem ji_range {i : Int} (T : Mo X.K X.mg) (h : JD X g ρ a (.int i)) (hz : i ≤ 1000000) (hl : -1000000 ≤ i) (hg : Gl X "range" := by rfl) (hs : starEach [a] X.env = [(false, eval a X.env)] := by rfl) (hs2 : starEach [a] X.env = (false, eval a X.env) :: starEach [] X.env := by rfl) :
    JID X g ρ tg (.Call (.Name "range" p) [a] [] pos) (rng i.toNat) := .mk fun B σ M H E R q => w_i (pi_range1 hg T.range (pa_cons pe_W pa_nil hs2) hs) (h.at_ E fun d v M1 H1 p E1 s iv => by
  subst p
  cases iv
  have hl2 : (rng i.toNat).length = i.toNat := by simp [rng]
  refine ⟨i, rfl, by omega, by omega, q (rng i.toNat) _ (fun _ => True) _ M1 H1 rfl s (by rw [hl2]; exact walk_range) (by rw [hl2]; omega) (fun _ _ _ _ => trivial) fun k M2 H2 x H3 hi s2 A2 y => ?_⟩
  obtain ⟨rfl, rfl⟩ := y
  refine ⟨M2, .int (0 + (k : Nat)), ?_, Stp.refl A2, .int _⟩
  unfold rng
  rw [hl2] at hi
  rw [List.getElem?_map, List.getElem?_range hi]
  simp)
def zipD (xs ys : List D) : List D := List.zipWith (fun a b => .tup [a, b]) xs ys
theorem zip_core {X1 X2 : List V} {M2 M1 H2 H3 : Hp} {v : V} {xs ys : List D} (A : At g M2 H2) (s : Same M1 M2) (l1 : IsL M1 xs X1) (l2 : IsL M1 ys X2) (y : YPair (fun i => X1[i]?) (fun i => X2[i]?) k H2 v H3) : ∃ M3 d, (zipD xs ys)[k]? = some d ∧ Stp g M2 H2 M3 H3 ∧ Is M3 d v := by
  obtain ⟨t, x, y, rfl, ht, rfl, hx, hy⟩ := y
  obtain ⟨d1, e1, i1⟩ := l1.back hx
  obtain ⟨d2, e2, i2⟩ := l2.back hy
  have st := Stp.new A ht (.tup [x, y])
  refine ⟨_, .tup [d1, d2], ?_, st, .tup upd_same (.cons ((i1.mono s).mono st.mm) (.cons ((i2.mono s).mono st.mm) .nil))⟩
  unfold zipD
  rw [List.getElem?_zipWith, e1, e2]
theorem ji_zip {elts : List Expr} {kk : Nat} {Ps : List D → Prop} (T : Mo X.K X.mg) (h : JA X g ρ [e, e2] Ps) (hk : ∀ ds, Ps ds → ∃ xs ys, (ds = [.lst xs, .lst ys] ∨ ds = [.tup xs, .tup ys]) ∧ xs.length ≤ 1000000 ∧ Pi (zipD xs ys)) (hg : Gl X "zip" := by rfl)
    (hs : starEach [e, e2] X.env = (false, eval e X.env) :: starEach [e2] X.env := by rfl) (hpl : (backTo pos (starEach [e2] X.env)).any (·.1) = false := by rfl) : JI X g ρ (.Tuple elts kk tpos) (.Call (.Name "zip" p) [e, e2] [] pos) Pi := .mk fun B σ M H E R q => w_i (RZ.pi_zipA hg T.zip pa_W hs hpl) (h.at_ E fun ds vs M1 H1 p E1 s il => by
  obtain ⟨xs, ys, hd, hz, hp⟩ := hk ds p
  have hlen : ∀ {X1 X2 : List V}, IsL M1 xs X1 → IsL M1 ys X2 → (zipD xs ys).length = min X1.length X2.length := fun l1 l2 => by unfold zipD; rw [List.length_zipWith, l1.length, l2.length]
  rcases hd with rfl | rfl
  · cases il with
    | cons i1 t =>
      cases t with
      | cons i2 t =>
        cases t
        cases i1 with
        | @lst ad _ X1 ea l1 =>
          cases i2 with
          | @lst bd _ X2 eb l2 =>
            refine ⟨ad, bd, X1, X2, rfl, .inl ⟨SqL.of (E1.at_.sub _ _ ea), SqL.of (E1.at_.sub _ _ eb), q _ _ _ _ M1 H1 hp s (walk_zip (hlen l1 l2)) ?_ (fun M2 H2 s2 A2 => ⟨SqL.of (A2.sub _ _ (s2 _ _ ea)), SqL.of (A2.sub _ _ (s2 _ _ eb))⟩) fun k M2 H2 x H3 hi s2 A2 y => zip_core A2 s2 l1 l2 y⟩⟩
            rw [hlen l1 l2, l1.length]
            omega
  · cases il with
    | cons i1 t =>
      cases t with
      | cons i2 t =>
        cases t
        cases i1 with
        | @tup ad _ X1 ea l1 =>
          cases i2 with
          | @tup bd _ X2 eb l2 =>
            refine ⟨ad, bd, X1, X2, rfl, .inr ⟨SqT.of (E1.at_.sub _ _ ea), SqT.of (E1.at_.sub _ _ eb), q _ _ _ _ M1 H1 hp s (walk_zipT (hlen l1 l2)) ?_ (fun M2 H2 s2 A2 => ⟨SqT.of (A2.sub _ _ (s2 _ _ ea)), SqT.of (A2.sub _ _ (s2 _ _ eb))⟩) fun k M2 H2 x H3 hi s2 A2 y => zip_core A2 s2 l1 l2 y⟩⟩
            rw [hlen l1 l2, l1.length]
            omega)
def enumD (xs : List D) : List D := zipD (rng xs.length) xs
theorem ji_enum {elts : List Expr} {kk : Nat} (T : Mo X.K X.mg) (h : JD X g ρ e (.tup ds)) (hz : ds.length ≤ 1000000) (hg : Gl X "enumerate" := by rfl) (hs : starEach [e] X.env = [(false, eval e X.env)] := by rfl) (hs2 : starEach [e] X.env = (false, eval e X.env) :: starEach [] X.env := by rfl) : JID X g ρ (.Tuple elts kk tpos) (.Call (.Name "enumerate" p) [e] [] pos) (enumD ds) :=
  .mk fun B σ M H E R q => w_i (pi_enumT hg T.enumerate (pa_cons pe_W pa_nil hs2) hs) (h.at_ E fun d v M1 H1 p E1 s iv => by
  subst p
  cases iv with
  | @tup ad _ X1 ea l1 =>
    have hl : (enumD ds).length = X1.length := by simp [enumD, zipD, rng, l1.length]
    refine ⟨ad, X1, rfl, SqT.of (E1.at_.sub _ _ ea), q _ _ _ _ M1 H1 rfl s (hl ▸ walk_enumT) (by rw [hl, l1.length]; exact hz) (fun M2 H2 s2 A2 => SqT.of (A2.sub _ _ (s2 _ _ ea))) fun k M2 H2 x H3 hi s2 A2 y => ?_⟩
    have lr : IsL M1 (rng ds.length) ((List.range ds.length).map fun i => V.int (i : Nat)) := by
      unfold rng
      generalize List.range ds.length = l
      induction l with
      | nil => exact .nil
      | cons a t ih => exact .cons (.int _) ih
    refine zip_core A2 s2 lr l1 ?_
    obtain ⟨t, x, y, h1, h2, h3, h4, h5⟩ := y
    refine ⟨t, x, y, h1, h2, h3, ?_, h5⟩
    rw [hl, l1.length] at hi
    show ((List.range ds.length).map fun i => V.int (i : Nat))[k]? = _
    rw [List.getElem?_map, List.getElem?_range hi]
    exact h4)
/-! ### comprehensions -/
/-- at every place that a block of X may stand at -/
def Bl (X : Cx) (scope : Scope) (F : Cx → Prop) : Prop := ∀ (s : Shared) (H : Hp) (C : Addr) (cl : List (Str × Addr)) (fp : List Addr), F (X.blk s H scope (compEnvC scope cl C X.env) fp)
def be (X : Cx) (scope : Scope) (e : Expr) : TE := fun σ H Q => Bl X scope fun Y => We Y e σ H Q
def bf (X : Cx) (scope : Scope) (e : List Expr) : TT := fun σ H Q => Bl X scope fun Y => Wf Y e σ H Q
def bg (X : Cx) (scope : Scope) (e : Expr) : TG := fun v σ H Q => Bl X scope fun Y => Wg Y e v σ H Q
def bi (X : Cx) (scope : Scope) (tg e : Expr) : TI := fun σ H Q => Bl X scope fun Y => Wi Y tg e σ H Q
theorem wipe_wipe (σ : L2.St) (vs : List Nat) : ∀ ws : List Nat, (∀ w ∈ ws, w ∈ vs) → L2.wipe (L2.wipe σ ws) vs = L2.wipe σ vs
  | [], _ => rfl
  | w :: ws, h => by
    show L2.wipe ((L2.wipe σ ws).set w none) vs = L2.wipe σ vs
    exact (wipe_set (L2.wipe σ ws) w none (h w List.mem_cons_self)).trans (wipe_wipe σ vs ws fun x hx => h x (List.mem_cons_of_mem _ hx))
/-- one turn: the item taken, tested, made -/
structure Lt (X : Cx) (g : Bg) (ρ : List Slot) (vs : List Nat) (scope : Scope) (tg : Expr) (ifs : List Expr) (elt : Expr) (d : D) (yes : D → Prop) (no : Prop) : Prop where
  ex : ∃ (ρ' : List Slot) (Pb : Bool → Prop) (Py : D → Prop), Bl X scope (fun Y => JG Y g (wipeR ρ vs) vs tg d ρ') ∧ Bl X scope (fun Y => JF Y g ρ' ifs Pb) ∧ (Pb true → Bl X scope (fun Y => J Y g ρ' elt Py) ∧ ∀ y, Py y → yes y) ∧ (Pb false → no)
theorem lc_go2 {J : It} {G : Hp → Prop} {Y : Nat → Hp → V → Hp → Prop} {n : Nat} (wk : Walk J n G Y) {tg : TG} {tt : TT} {te : TE} {vs : List Nat} {σ : L2.St} {Q : VK} (I : Nat → List V → Hp → Prop) (h : At g M H) (hn : n ≤ 1000000) (hG : ∀ M' H', Same M M' → At g M' H' → G H') (h0 : I 0 [] M)
    (turn : ∀ D i acc M1 H1 x H2, i < n → Tn g M H D n I i acc M1 H1 → Y i H1 x H2 → tg x (wipe σ vs) H2 fun σ2 H3 => wipe σ2 vs = wipe σ vs ∧ tt σ2 H3 fun b H4 =>
      if b = true then te σ2 H4 fun y H5 => ∃ acc, H5 D = some (.lst acc) ∧ acc.length < sizeLine ∧ Pn g M H D n I (i + 1) (upd H5 D (.lst (acc ++ [y]))) else Pn g M H D n I (i + 1) H4)
    (k : ∀ D acc M' H', Tn g M H D n I n acc M' H' → Q (.ref D) H') :
    ∀ D, H D = none → ∃ W : Nat → Nat → Hp → Prop, (∃ m, W 0 m (upd H D (.lst []))) ∧ ∀ i m H, W i m H →
      (J.stop i H ∧ Q (.ref D) H) ∨ (J.go i H ∧ ∃ Nx : Hp → Prop, (∀ H', Nx H' → ∃ m', m' < m ∧ W (i + 1) m' H') ∧ ∀ x H', J.yld i H x H' → tg x (wipe σ vs) H' fun σ2 H2 => wipe σ2 vs = wipe σ vs ∧ tt σ2 H2 fun b H3 =>
        if b = true then te σ2 H3 fun y H4 => ∃ acc, H4 D = some (.lst acc) ∧ acc.length < sizeLine ∧ Nx (upd H4 D (.lst (acc ++ [y]))) else Nx H3) := by
  intro D hD
  have nb := notbag h hD
  refine lc_it wk (Qd := fun H => Q (.ref D) H) (H1 := H) (Pn g M H D n I) ?_ ?_ ?_ ?_
  · exact ⟨[], M, Stp.tmp h hD _, upd_same, h.freeM hD, Nat.le_refl _, h0, Nat.zero_le _, hn, hD, nb⟩
  · rintro i H' _ ⟨acc, M', T⟩
    exact hG M' H' T.s.mm T.s.at_
  · rintro i x H1 H2 hi ⟨acc, M1, T⟩ y
    exact turn D i acc M1 H1 x H2 hi T y
  · rintro H' ⟨acc, M', T⟩
    exact k D acc M' H' T
theorem lc_core1 (hi : JI X g ρ tg iter Pi) (I : List D → Nat → List D → Prop) (h0 : ∀ its, Pi its → I its 0 [])
    (turn : ∀ its i d acc, Pi its → its[i]? = some d → I its i acc → acc.length ≤ i → Lt X g ρ vs scope tg ifs elt d (fun y => I its (i + 1) (acc ++ [y])) (I its (i + 1) acc)) (E : Ev B g M H σ ρ)
    (k : ∀ its acc D vs M' H', Pi its → I its its.length acc → acc.length ≤ its.length → Ev B g M' H' σ ρ → Stp g M H M' H' → H' D = some (.lst vs) → M' D = none → H D = none → IsL M' acc vs → Q (.ref D) H') :
    tLc (Wi X tg iter) (bg X scope tg) (bf X scope ifs) (be X scope elt) vs σ H Q := by
  refine hi B σ M H E _ fun its J G Y M1 H1 hp s1 wk hz hG hY => ?_
  have E1 := E.step s1
  refine lc_go2 wk (fun i xs M2 => ∃ acc, IsL M2 acc xs ∧ I its i acc) E1.at_ hz hG ⟨[], .nil, h0 its hp⟩ ?_ ?_
  · rintro D i xs M2 H2 x H3 hi tn hy
    obtain ⟨st, here, out, len, ⟨acc, il, hI⟩, le, few, hD, nb⟩ := id tn
    obtain ⟨M3, d, hd, s3, iv⟩ := hY i M2 H2 x H3 hi st.mm st.at_ hy
    have hl : acc.length ≤ i := il.length ▸ len
    obtain ⟨ρ', Pb, Py, h1, h2, h3, h4⟩ := (turn its i d acc hp hd hI hl).ex
    have E2 := E1.step st
    intro sh Hb C cl fp
    refine h1 sh Hb C cl fp B _ M3 H3 x _ ((E2.step s3).wipe vs) iv fun σ' hw E4 => ⟨hw.trans (wipe_wipe σ vs vs fun _ h => h), fun sh Hb C cl fp => ?_⟩
    refine h2 sh Hb C cl fp B σ' M3 H3 E4 _ fun z M4 H4 pz s4 => ?_
    cases z with
    | false =>
      simp only [Bool.false_eq_true, if_false]
      exact Tn.no tn hi (s3.trans s4) ⟨acc, (il.mono s3.mm).mono s4.mm, h4 pz⟩
    | true =>
      simp only [if_true]
      obtain ⟨h5, h6⟩ := h3 pz
      intro sh Hb C cl fp
      refine h5 sh Hb C cl fp B σ' M4 H4 (E4.step s4) _ fun y v M5 H5 py s5 iy => ?_
      exact Tn.yes tn hi ((s3.trans s4).trans s5) ⟨acc ++ [y], (((il.mono s3.mm).mono s4.mm).mono s5.mm).append (.one iy), h6 y py⟩
  · rintro D xs M2 H3 ⟨st, here, out, len, ⟨acc, il, hI⟩, le, few, hD, nb⟩
    have hD0 : H D = none := by
      cases q : H D with
      | none => rfl
      | some o => exact absurd hD (s1.dom D (some_ne q))
    exact k its acc D xs M2 H3 hp hI (il.length ▸ len) (E1.step st) (s1.trans st) here out hD0 il
/-- at the end the new list stands for good -/
theorem lc_frz {acc : List D} {D : Addr} {vs : List V} (E : Ev B g M H σ ρ) (st : Stp g M H M' H') (here : H' D = some (.lst vs)) (out : M' D = none) (hD : H D = none) (il : IsL M' acc vs) : Stp g M H (upd M' D (.lst vs)) H' ∧ Is (upd M' D (.lst vs)) (.lst acc) (.ref D) :=
  ⟨st.frz hD out here (notbag E.at_ hD), .lst upd_same (il.mono fun b u e => by rw [upd_ne (ne_of_none e out)]; exact e)⟩
theorem j_lc (hc : X.calm = true) (hN : X.N.Nodup) (ok : BlkOk X.N X.env.scope scope own) (hi : JI X g ρ tg iter Pi) (I : List D → Nat → List D → Prop) (h0 : ∀ its, Pi its → I its 0 [])
    (turn : ∀ its i d acc, Pi its → its[i]? = some d → I its i acc → acc.length ≤ i → Lt X g ρ (own.map (·.2)) scope tg ifs elt d (fun y => I its (i + 1) (acc ++ [y])) (I its (i + 1) acc))
    (fin : ∀ its acc, Pi its → I its its.length acc → acc.length ≤ its.length → P (.lst acc)) (hs : ∀ x, foldedSetIterable iter X.env x = pure x := by intro _; rfl) : J X g ρ (.ListComp elt [⟨tg, iter, ifs, 0⟩] scope pos) P :=
  j_of (pe_lc hc hN pi_W ok (fun s H C cl fp => ⟨fun pins s' _ _ _ u _ I r h => h s H C cl fp pins s' u I r⟩) (fun s H C cl fp => ⟨fun pins s' _ _ _ I h => h s H C cl fp pins s' I⟩) (fun s H C cl fp => ⟨fun pins s' _ _ _ I h => h s H C cl fp pins s' I⟩) hs)
    fun B σ M H E Q q => lc_core1 hi I h0 turn E fun its acc D vs M' H' hp hI hl _ st here out hD il => let z := lc_frz E st here out hD il; q _ _ _ H' (fin its acc hp hI hl) z.1 z.2
/-- the typed form: xs, each taken as q x; b: the test; f: the item -/
theorem filter_take {α β : Type} (xs : List α) (b : α → Bool) (f : α → β) (i : Nat) (x : α) (h : xs[i]? = some x) : ((xs.take (i + 1)).filter b).map f = ((xs.take i).filter b).map f ++ (if b x = true then [f x] else []) := by
  have hl : i < xs.length := by
    rcases Nat.lt_or_ge i xs.length with h1 | h1
    · exact h1
    · rw [List.getElem?_eq_none h1] at h; cases h
  rw [List.getElem?_eq_getElem hl] at h
  cases h
  rw [List.take_succ_eq_append_getElem hl, List.filter_append, List.map_append]
  congr 1
  by_cases hb : b xs[i] = true
  · simp [hb]
  · simp [hb]
structure LtD (X : Cx) (g : Bg) (ρ : List Slot) (vs : List Nat) (scope : Scope) (tg : Expr) (ifs : List Expr) (elt : Expr) (d : D) (b : Bool) (y : D) : Prop where
  ex : ∃ ρ' : List Slot, Bl X scope (fun Y => JG Y g (wipeR ρ vs) vs tg d ρ') ∧ Bl X scope (fun Y => JF Y g ρ' ifs (fun z => z = b)) ∧ (b = true → Bl X scope (fun Y => JD Y g ρ' elt y))
theorem jd_lc {α : Type} (xs : List α) (q : α → D) (b : α → Bool) (f : α → D) (hc : X.calm = true) (hN : X.N.Nodup) (ok : BlkOk X.N X.env.scope scope own) (hi : JID X g ρ tg iter (xs.map q))
    (turn : ∀ x ∈ xs, LtD X g ρ (own.map (·.2)) scope tg ifs elt (q x) (b x) (f x)) (hs : ∀ x, foldedSetIterable iter X.env x = pure x := by intro _; rfl) : JD X g ρ (.ListComp elt [⟨tg, iter, ifs, 0⟩] scope pos) (.lst ((xs.filter b).map f)) :=
  j_lc hc hN ok hi (fun its i acc => acc = ((xs.take i).filter b).map f) (fun _ _ => rfl) (by
    rintro _ i d acc rfl hd rfl hl
    rw [List.getElem?_map] at hd
    cases hx : xs[i]? with
    | none => rw [hx] at hd; cases hd
    | some x =>
      rw [hx] at hd
      cases hd
      obtain ⟨ρ', h1, h2, h3⟩ := (turn x (List.mem_of_getElem? hx)).ex
      refine ⟨ρ', _, fun z => z = f x, h1, h2, fun e => ⟨h3 e.symm, ?_⟩, fun e => ?_⟩
      · rintro _ rfl
        rw [filter_take xs b f i x hx, if_pos e.symm]
      · rw [filter_take xs b f i x hx, if_neg (by rw [← e]; decide), List.append_nil]) (by
    rintro _ acc rfl rfl _
    rw [List.length_map, List.take_length]) hs
/-- a comprehension's slots are emptied within; tests that are not there -/
theorem jf_nil : JF X g ρ [] (fun z => z = true) := .mk fun B σ M H E Q q => w_f pts_nil (q true M H rfl (Stp.refl E.at_))
theorem jf_one {Pb : Bool → Prop} (h : JT X g ρ c Pb) : JF X g ρ [c] Pb := .mk fun B σ M H E Q q => w_f (pts_one pt_W) (h.at_ E fun b M1 H1 p E1 s => q b M1 H1 p s)
/-- no test; every item has a property: as many items as were walked -/
theorem filter_tt {α : Type} (xs : List α) : xs.filter (fun _ => true) = xs := List.filter_eq_self.mpr fun _ _ => rfl
/-! two generators -/
structure Tm (g : Bg) (M H : Hp) (D : Addr) (acc : List V) (M1 H1 : Hp) : Prop where
  s : Stp g M H M1 H1
  here : H1 D = some (.lst acc)
  out : M1 D = none
  hD : H D = none
theorem Tm.on {M1 H1 M5 H5 : Hp} {D : Addr} {acc : List V} (T : Tm g M H D acc M1 H1) (s : Stp g M1 H1 M5 H5) (nb : ∀ ns, g ≠ some (D, ns)) : Tm g M H D acc M5 H5 := ⟨T.s.trans s, s.hh D _ T.here nb, s.fr D (some_ne T.here) T.out, T.hD⟩
theorem Tm.yes {M1 H1 : Hp} {D : Addr} {acc : List V} {y : V} (T : Tm g M H D acc M1 H1) (nb : ∀ ns, g ≠ some (D, ns)) : Tm g M H D (acc ++ [y]) M1 (upd H1 D (.lst (acc ++ [y]))) := ⟨T.s.put T.hD T.out nb _, upd_same, T.out, T.hD⟩
theorem Ev.put0 (E : Ev B g M H σ ρ) (h : (ρ.all fun s => !s.owned) = true) {D : Addr} (h0 : B.H D = none) (hM : M D = none) (nb : ∀ ns, g ≠ some (D, ns)) (o : HO) : Ev B g M (upd H D o) σ ρ := by
  refine ⟨E.a0, E.st.put h0 hM nb o, fun i s hs => ?_, E.dis, E.len⟩
  obtain ⟨o, h1, h2⟩ := E.ok i s hs
  refine ⟨o, h1, ?_⟩
  have hn := List.all_eq_true.mp h s (List.mem_of_getElem? hs)
  cases s with
  | any => trivial
  | ro d => exact h2
  | own _ => cases hn
  | ownd _ => cases hn
  | slf _ _ _ => cases hn
theorem yes_go {Q : Bool → Hp → Prop} (h : Q true H) : tYes σ H Q := h
theorem jd_lc2 {α β : Type} {tg1 iter1 : Expr} {vs1 : List Nat} (xs : List α) (q : α → D) (ys : α → List β) (q1 : α → β → D) (b : α → β → Bool) (f : α → β → D) (few : ∀ x ∈ xs, (ys x).length ≤ 100) (hx : xs.length ≤ 1000) (hc : X.calm = true) (hN : X.N.Nodup) (ok : BlkOk X.N X.env.scope scope own) (hv : ∀ i ∈ vs1, i ∈ own.map (·.2)) (hi : JID X g ρ tg iter (xs.map q))
    (turn : ∀ x ∈ xs, ∃ ρ', (ρ'.all fun s => !s.owned) = true ∧ Bl X scope (fun Y => JG Y g (wipeR ρ (own.map (·.2))) (own.map (·.2)) tg (q x) ρ') ∧ Bl X scope (fun Y => JID Y g ρ' tg1 iter1 ((ys x).map (q1 x))) ∧ ∀ y ∈ ys x, ∃ ρ'', Bl X scope (fun Y => JG Y g (wipeR ρ' vs1) vs1 tg1 (q1 x y) ρ'') ∧ Bl X scope (fun Y => JF Y g ρ'' ifs (fun z => z = b x y)) ∧ (b x y = true → Bl X scope (fun Y => JD Y g ρ'' elt (f x y))))
    (hs : ∀ x, foldedSetIterable iter X.env x = pure x := by intro _; rfl) (hs1 : ∀ env x, foldedSetIterable iter1 env x = pure x := by intro _ _; rfl) :
    JD X g ρ (.ListComp elt [⟨tg, iter, [], 0⟩, ⟨tg1, iter1, ifs, 0⟩] scope pos) (.lst (xs.flatMap fun x => ((ys x).filter (b x)).map (f x))) := by
  refine j_of (pe_lc2 (wi := Wi X tg iter) (g := bg X scope tg) (tt := tYes) (wi1 := bi X scope tg1 iter1) (g1 := bg X scope tg1) (tt1 := bf X scope ifs) (te := be X scope elt) hc hN pi_W ok hv
    (fun s H C cl fp => ⟨fun pins s' _ _ _ u _ I r h => h s H C cl fp pins s' u I r⟩) (fun s H C cl fp => pts_nil) (fun s H C cl fp => ⟨fun pins s' _ _ _ I h => h s H C cl fp pins s' I⟩) (fun s H C cl fp => ⟨fun pins s' _ _ _ u _ I r h => h s H C cl fp pins s' u I r⟩)
    (fun s H C cl fp => ⟨fun pins s' _ _ _ I h => h s H C cl fp pins s' I⟩) (fun s H C cl fp => ⟨fun pins s' _ _ _ I h => h s H C cl fp pins s' I⟩) hs hs1) fun B σ M H E Q k => ?_
  refine hi B σ M H E _ fun its Jt G Y M1 H1 hp s1 wk hz hG hY => ?_
  subst hp
  have E1 := E.step s1
  intro D hD
  have nb := notbag E1.at_ hD
  have hlen : (xs.map q).length = xs.length := List.length_map ..
  have bound : ∀ i, i ≤ xs.length → ((xs.take i).flatMap fun x => ((ys x).filter (b x)).map (f x)).length ≤ 100 * i := by
    intro i
    induction i with
    | zero => intro _; simp
    | succ i ih =>
      intro h
      have := ih (by omega)
      rw [List.take_succ_eq_append_getElem (by omega), List.flatMap_append, List.length_append]
      have h2 : ((([xs[i]] : List α).flatMap fun x => ((ys x).filter (b x)).map (f x))).length ≤ 100 := by
        simp only [List.flatMap_cons, List.flatMap_nil, List.append_nil, List.length_map]
        exact Nat.le_trans (List.length_filter_le _ _) (few _ (List.getElem_mem ..))
      omega
  refine ⟨fun i m H' => m = xs.length - i ∧ i ≤ xs.length ∧ ∃ acc vsl M', Tm g M1 H1 D vsl M' H' ∧ IsL M' acc vsl ∧ acc = (xs.take i).flatMap fun x => ((ys x).filter (b x)).map (f x), ⟨_, rfl, Nat.zero_le _, [], [], M1, ⟨Stp.tmp E1.at_ hD _, upd_same, E1.at_.freeM hD, hD⟩, .nil, by simp⟩, ?_⟩
  rintro i m H2 ⟨rfl, hi2, acc, vsl, M2, tm, il, hacc⟩
  by_cases hlt : i < xs.length
  · refine .inr ⟨wk.goes i H2 (by rw [hlen]; exact hlt) (hG M2 H2 tm.s.mm tm.s.at_), fun H' => i + 1 ≤ xs.length ∧ ∃ acc vsl M', Tm g M1 H1 D vsl M' H' ∧ IsL M' acc vsl ∧ acc = (xs.take (i + 1)).flatMap fun x => ((ys x).filter (b x)).map (f x), fun H' ⟨h1, h2⟩ => ⟨xs.length - (i + 1), by omega, rfl, h1, h2⟩, fun x H3 hy => ?_⟩
    obtain ⟨M3, d, hd, s3, iv⟩ := hY i M2 H2 x H3 (by rw [hlen]; exact hlt) tm.s.mm tm.s.at_ (wk.yields i H2 x H3 (by rw [hlen]; exact hlt) (hG M2 H2 tm.s.mm tm.s.at_) hy)
    rw [List.getElem?_map, List.getElem?_eq_getElem hlt] at hd
    cases hd
    obtain ⟨ρ', h0, h1, h2, h3⟩ := turn xs[i] (List.getElem_mem ..)
    intro sh Hb C cl fp
    refine h1 sh Hb C cl fp B _ M3 H3 x _ (((E1.step tm.s).step s3).wipe _) iv fun σ2 hw E3 => ⟨hw.trans (wipe_wipe σ _ _ fun _ h => h), ?_⟩
    refine yes_go ?_
    simp only [if_true]
    intro sh Hb C cl fp
    refine h2 sh Hb C cl fp B σ2 M3 H3 E3 _ fun its2 J2 G2 Y2 M4 H4 hp2 s4 wk2 hz2 hG2 hY2 => ?_
    subst hp2
    have hlen2 : ((ys xs[i]).map (q1 xs[i])).length = (ys xs[i]).length := List.length_map ..
    have E4 := E3.step s4
    have tm4 := (tm.on s3 nb).on s4 nb
    refine ⟨fun j m H' => m = (ys xs[i]).length - j ∧ j ≤ (ys xs[i]).length ∧ ∃ vsl M', Tm g M1 H1 D vsl M' H' ∧ Stp g M4 H4 M4 H4 ∧ Same M4 M' ∧ Ev B g M' H' σ2 ρ' ∧ IsL M' (acc ++ (((ys xs[i]).take j).filter (b xs[i])).map (f xs[i])) vsl, ⟨_, rfl, Nat.zero_le _, vsl, M4, tm4, Stp.refl E4.at_, Same.refl _, E4, by simpa using (il.mono s3.mm).mono s4.mm⟩, ?_⟩
    rintro j m H5 ⟨rfl, hj, vsl5, M5, tm5, _, sm5, E5, il5⟩
    by_cases hlt2 : j < (ys xs[i]).length
    · refine .inr ⟨wk2.goes j H5 (by rw [hlen2]; exact hlt2) (hG2 M5 H5 sm5 tm5.s.at_), fun H' => j + 1 ≤ (ys xs[i]).length ∧ ∃ vsl M', Tm g M1 H1 D vsl M' H' ∧ Stp g M4 H4 M4 H4 ∧ Same M4 M' ∧ Ev B g M' H' σ2 ρ' ∧ IsL M' (acc ++ (((ys xs[i]).take (j + 1)).filter (b xs[i])).map (f xs[i])) vsl, fun H' ⟨h1, h2⟩ => ⟨_, (by omega), rfl, h1, h2⟩, fun x H6 hy => ?_⟩
      obtain ⟨M6, d6, hd6, s6, iv6⟩ := hY2 j M5 H5 x H6 (by rw [hlen2]; exact hlt2) sm5 tm5.s.at_ (wk2.yields j H5 x H6 (by rw [hlen2]; exact hlt2) (hG2 M5 H5 sm5 tm5.s.at_) hy)
      have hyj : (ys xs[i])[j]? = some (ys xs[i])[j] := List.getElem?_eq_getElem hlt2
      rw [List.getElem?_map, hyj] at hd6
      cases hd6
      obtain ⟨ρ'', g1, g2, g3⟩ := h3 _ (List.getElem_mem hlt2)
      have E6 := E5.step s6
      have tm6 := tm5.on s6 nb
      intro sh Hb C cl fp
      refine g1 sh Hb C cl fp B _ M6 H6 x _ (E6.wipe vs1) iv6 fun σ3 hw3 E7 => ⟨hw3.trans (wipe_wipe σ2 vs1 vs1 fun _ h => h), fun sh Hb C cl fp => ?_⟩
      refine g2 sh Hb C cl fp B σ3 M6 H6 E7 _ fun z M7 H7 pz s7 => ?_
      subst pz
      by_cases hb : b xs[i] (ys xs[i])[j] = true
      · rw [if_pos hb]
        intro sh Hb C cl fp
        refine g3 hb sh Hb C cl fp B σ3 M7 H7 (E7.step s7) _ fun y v M8 H8 py s8 iy => ?_
        subst py
        have tm8 := (tm6.on s7 nb).on s8 nb
        have E8 := (E6.step s7).step s8
        have ln := il5.length
        rw [List.length_append, List.length_map, hacc] at ln
        have b1 := bound i hi2
        have b2 : (((ys xs[i]).take j).filter (b xs[i])).length ≤ 100 := Nat.le_trans (List.length_filter_le _ _) (Nat.le_trans (List.length_take_le ..) (by have := few _ (List.getElem_mem hlt); omega))
        have hD0 : B.H D = none := by
          cases q : B.H D with
          | none => rfl
          | some o =>
            have := E1.st.dom D (some_ne q)
            exact absurd hD this
        refine ⟨vsl5, tm8.here, by rw [sizeLine_eq]; omega, hlt2, vsl5 ++ [v], M8, tm8.yes nb, Stp.refl E4.at_, ((sm5.trans s6.mm).trans s7.mm).trans s8.mm, ?_, ?_⟩
        · exact E8.put0 h0 hD0 tm8.out nb _
        · rw [filter_take _ _ _ j _ hyj, if_pos hb, ← List.append_assoc]
          exact ((((il5.mono s6.mm).mono s7.mm).mono s8.mm)).append (.one iy)
      · rw [if_neg hb]
        refine ⟨hlt2, vsl5, M7, tm6.on s7 nb, Stp.refl E4.at_, (sm5.trans s6.mm).trans s7.mm, E6.step s7, ?_⟩
        rw [filter_take _ _ _ j _ hyj, if_neg hb, List.append_nil]
        exact (il5.mono s6.mm).mono s7.mm
    · have e : j = (ys xs[i]).length := by omega
      subst e
      refine .inl ⟨hlen2 ▸ wk2.stops H5 (hG2 M5 H5 sm5 tm5.s.at_), hlt, _, vsl5, M5, tm5, il5, ?_⟩
      rw [List.take_succ_eq_append_getElem hlt, List.flatMap_append, ← hacc, List.take_length]
      simp
  · have e : i = xs.length := by omega
    subst e
    refine .inl ⟨hlen ▸ wk.stops H2 (hG M2 H2 tm.s.mm tm.s.at_), ?_⟩
    rw [List.take_length] at hacc
    subst hacc
    have sf := tm.s.frz tm.hD tm.out tm.here nb
    exact k _ _ _ _ rfl (s1.trans sf) (.lst upd_same (il.mono fun b u e => by rw [upd_ne (ne_of_none e tm.out)]; exact e))

/-- no test -/
theorem jd_lcm {α : Type} (xs : List α) (q : α → D) (f : α → D) (hc : X.calm = true) (hN : X.N.Nodup) (ok : BlkOk X.N X.env.scope scope own) (hi : JID X g ρ tg iter (xs.map q))
    (turn : ∀ x ∈ xs, ∃ ρ' : List Slot, Bl X scope (fun Y => JG Y g (wipeR ρ (own.map (·.2))) (own.map (·.2)) tg (q x) ρ') ∧ Bl X scope (fun Y => JD Y g ρ' elt (f x))) (hs : ∀ x, foldedSetIterable iter X.env x = pure x := by intro _; rfl) : JD X g ρ (.ListComp elt [⟨tg, iter, [], 0⟩] scope pos) (.lst (xs.map f)) := by
  have h := jd_lc (pos := pos) xs q (fun _ => true) f hc hN ok hi (fun x hx => let ⟨ρ', h1, h2⟩ := turn x hx; ⟨ρ', h1, fun _ _ _ _ _ => jf_nil, fun _ => h2⟩) hs
  rw [filter_tt] at h
  exact h
theorem jd_allc {α : Type} {xs : List α} {f : α → Bool} (T : Mo X.K X.mg) (hc : X.calm = true) (h : JD X g ρ e (.lst (xs.map fun x => .bl (f x)))) (hg : Gl X "all" := by rfl) (he : starEach [e] X.env = (false, eval e X.env) :: starEach [] X.env := by rfl) : JD X g ρ (.Call (.Name "all" p) [e] [] pos) (.bl (xs.all f)) := by
  have e1 : (xs.map fun x => D.bl (f x)) = (xs.map f).map D.bl := by rw [List.map_map]; rfl
  have e2 : xs.all f = (xs.map f).all id := by rw [List.all_map]; rfl
  rw [e1] at h
  rw [e2]
  exact jd_all T hc h hg he
theorem jd_anyc {α : Type} {xs : List α} {f : α → Bool} (T : Mo X.K X.mg) (hc : X.calm = true) (h : JD X g ρ e (.lst (xs.map fun x => .bl (f x)))) (hg : Gl X "any" := by rfl) (he : starEach [e] X.env = (false, eval e X.env) :: starEach [] X.env := by rfl) : JD X g ρ (.Call (.Name "any" p) [e] [] pos) (.bl (xs.any f)) := by
  have e1 : (xs.map fun x => D.bl (f x)) = (xs.map f).map D.bl := by rw [List.map_map]; rfl
  have e2 : xs.any f = (xs.map f).any id := by rw [List.any_map]; rfl
  rw [e1] at h
  rw [e2]
  exact jd_any T hc h hg he
end
end FD
end
section
set_option maxHeartbeats 2000000
/-! rules for statements -/
namespace FD
open PySem PySem.Spec PyProof.Rows L2
section
variable {X : Cx} {g : Bg} {ρ ρ1 ρ2 : List Slot} {e a b c o e1 e2 elt tg iter : Expr} {es ifs : List Expr} {P P1 P2 P3 : D → Prop} {Ps Pi : List D → Prop} {d d1 d2 : D} {pos p apos pos' p2 tpos : Pos} {x y m : Str} {te : TE} {B : Ba} {σ : L2.St} {M H M' H' : Hp} {v : V} {Q : VK} {ds ds' its : List D} {s z : Str} {ss zs : List Str} {i j n k : Nat} {vs : List Nat} {scope : Scope} {st : Stmt} {rest body orelse : List Stmt} {po : Po} {Pb : Bool → Prop} {q : Addr} {ho : HO} {sl sl' : Slot} {C : Addr} {fs : List (Str × D)} {kvs : List (Str × D)}
/-! ### the environment changes -/
theorem SlotOk.at_ne {H0 : Hp} {ov : Option V} (h : SlotOk H0 M H sl ov) (hq : sl.owned = true → ov ≠ some (.ref q)) : SlotOk H0 M (upd H q ho) sl ov := by
  cases sl with
  | any => trivial
  | ro d => exact h
  | own ds =>
    obtain ⟨p, vs, e1, e2, e3, e4, e5⟩ := h
    exact ⟨p, vs, e1, e2, e3, by rw [upd_ne (fun z => hq rfl (by rw [e1, z]))]; exact e4, e5⟩
  | ownd ds =>
    obtain ⟨p, vs, e1, e2, e3, e4, e5⟩ := h
    exact ⟨p, vs, e1, e2, e3, by rw [upd_ne (fun z => hq rfl (by rw [e1, z]))]; exact e4, e5⟩
  | slf p C ds =>
    obtain ⟨dx, vs, e1, e2, e3, e4, e5⟩ := h
    exact ⟨dx, vs, e1, e2, e3, by rw [upd_ne (fun z => hq rfl (by rw [e1, z]))]; exact e4, e5⟩
theorem SlotOk.adr {H0 : Hp} {ov : Option V} (h : SlotOk H0 M H sl ov) (ho : sl.owned = true) : ∃ p, ov = some (.ref p) ∧ H0 p = none ∧ M p = none ∧ H p ≠ none := by
  cases sl with
  | any => cases ho
  | ro d => cases ho
  | own ds => obtain ⟨p, vs, e1, e2, e3, e4, e5⟩ := h; exact ⟨p, e1, e2, e3, some_ne e4⟩
  | ownd ds => obtain ⟨p, vs, e1, e2, e3, e4, e5⟩ := h; exact ⟨p, e1, e2, e3, some_ne e4⟩
  | slf p C ds => obtain ⟨dx, vs, e1, e2, e3, e4, e5⟩ := h; exact ⟨p, e1, e2, e3, some_ne e4⟩
/-- a thing of one slot is written -/
theorem Ev.mut (E : Ev B g M H σ ρ) (hi : ρ[i]? = some sl) (h1 : sl.owned = true) (hs : σ[i]? = some (some (.ref q))) (h0 : B.H q = none) (hM : M q = none) (h2 : sl'.owned = true) (new : SlotOk B.H M (upd H q ho) sl' (some (.ref q))) : Ev B g M (upd H q ho) σ (ρ.set i sl') := by
  refine ⟨E.a0, E.st.put h0 hM (notbag E.a0 h0) ho, fun j s e => ?_, fun j k sj sk p e1 e2 o1 o2 s1 s2 => ?_, by rw [List.length_set]; exact E.len⟩
  · rcases set_cases e with ⟨z, z2⟩ | ⟨z, e⟩
    · subst z z2
      exact ⟨_, hs, new⟩
    · obtain ⟨o, e1, e2⟩ := E.ok j s e
      refine ⟨o, e1, e2.at_ne fun hw hq => z ?_⟩
      subst hq
      exact E.dis i j sl s q hi e h1 hw hs e1
  · have f : ∀ {j : Nat} {sj : Slot}, (ρ.set i sl')[j]? = some sj → sj.owned = true → ∃ s, ρ[j]? = some s ∧ s.owned = true := by
      intro j sj e ho
      rcases set_cases e with ⟨z, z2⟩ | ⟨z, e⟩
      · subst z; exact ⟨sl, hi, h1⟩
      · exact ⟨sj, e, ho⟩
    obtain ⟨sj', e1', o1'⟩ := f e1 o1
    obtain ⟨sk', e2', o2'⟩ := f e2 o2
    exact E.dis j k sj' sk' p e1' e2' o1' o2' s1 s2
/-- a slot takes a thing of its own -/
theorem Ev.toOwn (E : Ev B g M H σ ρ) (i : Nat) (h0 : B.H q = none) (ne : ∀ (j : Nat) (s : Slot), ρ[j]? = some s → s.owned = true → σ[j]? ≠ some (some (.ref q))) (h2 : sl'.owned = true) (new : SlotOk B.H M H sl' (some (.ref q))) : Ev B g M H (σ.set i (some (.ref q))) (ρ.set i sl') := by
  refine ⟨E.a0, E.st, fun j s e => ?_, fun j k sj sk p e1 e2 o1 o2 s1 s2 => ?_, by rw [List.length_set, List.length_set]; exact E.len⟩
  · rcases set_cases e with ⟨z, z2⟩ | ⟨z, e'⟩
    · subst z2
      exact ⟨_, set_self e z E.len, new⟩
    · obtain ⟨o, e1, e2⟩ := E.ok j s e'
      exact ⟨o, by rw [List.getElem?_set_ne z]; exact e1, e2⟩
  · rcases set_cases e1 with ⟨z, z2⟩ | ⟨z, e1'⟩
    · rcases set_cases e2 with ⟨w, w2⟩ | ⟨w, e2'⟩
      · exact z.symm.trans w
      · rw [set_self e1 z E.len] at s1
        cases s1
        rw [List.getElem?_set_ne w] at s2
        exact absurd s2 (ne k sk e2' o2)
    · rw [List.getElem?_set_ne z] at s1
      rcases set_cases e2 with ⟨w, w2⟩ | ⟨w, e2'⟩
      · rw [set_self e2 w E.len] at s2
        cases s2
        exact absurd s1 (ne j sj e1' o1)
      · rw [List.getElem?_set_ne w] at s2
        exact E.dis j k sj sk p e1' e2' o1 o2 s1 s2
theorem Ev.fresh (E : Ev B g M H σ ρ) (hq : H q = none) : B.H q = none := by
  cases r : B.H q with
  | none => rfl
  | some o => exact absurd hq (E.st.dom q (some_ne r))
theorem Ev.ne (E : Ev B g M H σ ρ) (hq : H q = none) : ∀ (j : Nat) (s : Slot), ρ[j]? = some s → s.owned = true → σ[j]? ≠ some (some (.ref q)) := fun j s e ho hs => by
  obtain ⟨o, e1, e2⟩ := E.ok j s e
  obtain ⟨p, e3, _, _, e4⟩ := e2.adr ho
  rw [e1] at hs
  cases hs
  cases e3
  exact e4 hq
/-- .. newly made -/
theorem Ev.newOwn (E : Ev B g M H σ ρ) (i : Nat) (hq : H q = none) (h2 : sl'.owned = true) (new : SlotOk B.H M (upd H q ho) sl' (some (.ref q))) : Ev B g M (upd H q ho) (σ.set i (some (.ref q))) (ρ.set i sl') :=
  (E.step (Stp.tmp E.at_ hq ho)).toOwn i (E.fresh hq) (E.ne hq) h2 new
/-- it stands for good from here on -/
theorem Ev.frz (E : Ev B g M H σ ρ) (hi : ρ[i]? = some sl) (h1 : sl.owned = true) (hs : σ[i]? = some (some (.ref q))) (h0 : B.H q = none) (hM : M q = none) (hH : H q = some ho) (new : Is (upd M q ho) d (.ref q)) : Ev B g (upd M q ho) H σ (ρ.set i (.ro d)) := by
  have mm : Same M (upd M q ho) := fun b u e => by rw [upd_ne (ne_of_none e hM)]; exact e
  refine ⟨E.a0, E.st.frz h0 hM hH (notbag E.a0 h0), fun j s e => ?_, fun j k sj sk p e1 e2 o1 o2 s1 s2 => ?_, by rw [List.length_set]; exact E.len⟩
  · rcases set_cases e with ⟨z, z2⟩ | ⟨z, e⟩
    · subst z z2
      exact ⟨_, hs, _, rfl, new⟩
    · obtain ⟨o, e1, e2⟩ := E.ok j s e
      have ne : ∀ p, o = some (.ref p) → s.owned = true → p ≠ q := fun p hp hw hq => by
        subst hq hp
        exact z (E.dis i j sl s p hi e h1 hw hs e1)
      refine ⟨o, e1, ?_⟩
      cases s with
      | any => trivial
      | ro d => obtain ⟨v, e3, e4⟩ := e2; exact ⟨v, e3, e4.mono mm⟩
      | own ds => obtain ⟨p, vs, f1, f2, f3, f4, f5⟩ := e2; exact ⟨p, vs, f1, f2, by rw [upd_ne (ne p f1 rfl)]; exact f3, f4, f5.mono mm⟩
      | ownd ds => obtain ⟨p, vs, f1, f2, f3, f4, f5⟩ := e2; exact ⟨p, vs, f1, f2, by rw [upd_ne (ne p f1 rfl)]; exact f3, f4, f5.mono mm⟩
      | slf p C ds => obtain ⟨dx, vs, f1, f2, f3, f4, f5⟩ := e2; exact ⟨dx, vs, f1, f2, by rw [upd_ne (ne p f1 rfl)]; exact f3, f4, f5.mono mm⟩
  · rcases set_cases e1 with ⟨z, z2⟩ | ⟨z, e1⟩
    · subst z2; cases o1
    · rcases set_cases e2 with ⟨w, w2⟩ | ⟨w, e2⟩
      · subst w2; cases o2
      · exact E.dis j k sj sk p e1 e2 o1 o2 s1 s2
theorem Ev.forget (E : Ev B g M H σ ρ) (i : Nat) : Ev B g M H σ (ρ.set i .any) := by
  refine ⟨E.a0, E.st, fun j s e => ?_, fun j k sj sk p e1 e2 o1 o2 s1 s2 => ?_, by rw [List.length_set]; exact E.len⟩
  · rcases set_cases e with ⟨z, z2⟩ | ⟨z, e⟩
    · subst z2
      have : j < σ.length := by
        rcases Nat.lt_or_ge j σ.length with h1 | h1
        · exact h1
        · rw [List.getElem?_eq_none (by rw [List.length_set, ← E.len]; exact h1)] at e; cases e
      exact ⟨σ[j], List.getElem?_eq_getElem this, trivial⟩
    · exact E.ok j s e
  · rcases set_cases e1 with ⟨z, z2⟩ | ⟨z, e1⟩
    · subst z2; cases o1
    · rcases set_cases e2 with ⟨w, w2⟩ | ⟨w, e2⟩
      · subst w2; cases o2
      · exact E.dis j k sj sk p e1 e2 o1 o2 s1 s2
/-! ### blocks -/
theorem ss_nil (h : po.N ρ) : SS X g po ρ [] := .mk fun B σ M H D E O => w_b pss_nil (O.nx ρ σ M H h (Same.refl M) E)
theorem ss_s1 {ts : TS} (hs : PS X st ts) (k : ∀ (B : Ba) (σ : L2.St) (M H : Hp) (D : Ends), Ev B g M H σ ρ → po.Of g B M D → (∀ ρ' σ' M' H', SS X g po ρ' rest → Same M M' → Ev B g M' H' σ' ρ' → Wb X rest D σ' H') → ts { D with nx := fun σ' H' => Wb X rest D σ' H' } σ H) : SS X g po ρ (st :: rest) :=
  .mk fun B σ M H D E O => w_b (pss_cons hs pss_W) (k B σ M H D E O fun ρ' σ' M' H' h s E' => h B σ' M' H' D E' (O.on s))
/-- x = e -/
theorem ss_set (i : Nat) {x : Str} {px : Pos} (hN : X.N.Nodup) (he : J X g ρ e P) (k : ∀ d, P d → SS X g po (ρ.set i (.ro d)) rest) (hi : X.N[i]? = some x := by rfl) (hx : Loc X.env.scope x := by first | exact Or.inl rfl | exact Or.inr rfl)
    (hs : swapsWith e (some (.Name x px)) pos.line X.env = pure false := by rfl) (hf : X.fn x = true ∨ X.env.scope.names.lookup x = some .local := by first | exact .inl rfl | exact .inr rfl | assumption) : SS X g po ρ (.Assign [.Name x px] e pos :: rest) :=
  ss_s1 (ps_set hN hi hx pe_W hs hf) fun B σ M H D E O K => he.at_ E fun d v M1 H1 p E1 s iv => K _ _ M1 H1 (k d p) s.mm (E1.ro i iv)
/-- x = [..], the name a local one -/
theorem ss_setLc (i : Nat) {x : Str} {px : Pos} {own : List (Str × Nat)} (hc : X.calm = true) (hN : X.N.Nodup) (ok : BlkOk X.N X.env.scope scope own) (hi : JI X g ρ tg iter Pi) (I : List D → Nat → List D → Prop) (h0 : ∀ its, Pi its → I its 0 [])
    (turn : ∀ its i d acc, Pi its → its[i]? = some d → I its i acc → acc.length ≤ i → Lt X g ρ (own.map (·.2)) scope tg ifs elt d (fun y => I its (i + 1) (acc ++ [y])) (I its (i + 1) acc))
    (k : ∀ its acc, Pi its → I its its.length acc → acc.length ≤ its.length → SS X g po (ρ.set i (.own acc)) rest) (hx : X.N[i]? = some x := by rfl) (hxl : X.env.scope.names.lookup x = some .local := by rfl) (hs : ∀ x, foldedSetIterable iter X.env x = pure x := by intro _; rfl)
    (hsw : swapsWith (.ListComp elt [⟨tg, iter, ifs, 0⟩] scope pos') (some (.Name x px)) pos.line X.env = pure true := by exact sw_true rfl rfl rfl (by kernel_rfl)) : SS X g po ρ (.Assign [.Name x px] (.ListComp elt [⟨tg, iter, ifs, 0⟩] scope pos') pos :: rest) :=
  ss_s1 (ps_setLc hc hN hx hxl hsw pi_W ok (fun s H C cl fp => ⟨fun pins s' _ _ _ u _ I r h => h s H C cl fp pins s' u I r⟩) (fun s H C cl fp => ⟨fun pins s' _ _ _ I h => h s H C cl fp pins s' I⟩) (fun s H C cl fp => ⟨fun pins s' _ _ _ I h => h s H C cl fp pins s' I⟩) hs)
    fun B σ M H D E O K => lc_core1 (Q := fun y H1 => gName i y σ H1 fun σ' H' => Wb X rest D σ' H') hi I h0 turn E fun its acc D vs M' H' hp hI hl E1 st here out hD il => by
      refine K _ _ M' H' (k its acc hp hI hl) st.mm ?_
      exact E1.toOwn i (E.fresh hD) (E.ne hD) rfl ⟨D, vs, rfl, E.fresh hD, out, here, il⟩
/-- a list of one's own stands for good -/
theorem ss_frz (i : Nat) (h : ρ[i]? = some (.own ds) := by rfl) (k : SS X g po (ρ.set i (.ro (.lst ds))) (st :: rest)) : SS X g po ρ (st :: rest) := .mk fun B σ M H D E O => by
  obtain ⟨o, e1, p, vs, rfl, h0, hM, hH, il⟩ := E.ok i _ h
  have mm : Same M (upd M p (.lst vs)) := fun b u e => by rw [upd_ne (ne_of_none e hM)]; exact e
  exact k B σ _ H D (E.frz h rfl e1 h0 hM hH (.lst upd_same (il.mono mm))) (O.on mm)
theorem ss_frzD (i : Nat) (h : ρ[i]? = some (.ownd kvs) := by rfl) (k : SS X g po (ρ.set i (.ro (.dic kvs))) (st :: rest)) : SS X g po ρ (st :: rest) := .mk fun B σ M H D E O => by
  obtain ⟨o, e1, p, vs, rfl, h0, hM, hH, il⟩ := E.ok i _ h
  have mm : Same M (upd M p (.dK vs)) := fun b u e => by rw [upd_ne (ne_of_none e hM)]; exact e
  exact k B σ _ H D (E.frz h rfl e1 h0 hM hH (.dic upd_same (il.mono mm))) (O.on mm)
theorem ss_forget (i : Nat) (k : SS X g po (ρ.set i .any) rest) : SS X g po ρ rest := .mk fun B σ M H D E O => k B σ M H D (E.forget i) O
/-- x = [..] (no walk), x = list(..), x = {} as one's own -/
theorem ss_own0 (i : Nat) {x : Str} {px : Pos} (hN : X.N.Nodup) (k : SS X g po (ρ.set i (.own [])) rest) (hi : X.N[i]? = some x := by rfl) (hx : Loc X.env.scope x := by first | exact Or.inl rfl | exact Or.inr rfl)
    (hs : swapsWith (.List [] pos') (some (.Name x px)) pos.line X.env = pure false := by rfl) (hf : X.fn x = true ∨ X.env.scope.names.lookup x = some .local := by first | exact .inl rfl | exact .inr rfl | assumption) : SS X g po ρ (.Assign [.Name x px] (.List [] pos') pos :: rest) :=
  ss_s1 (ps_set hN hi hx (pe_lst pa_nil) hs hf) fun B σ M H D E O K => ⟨by decide, fun q hq => K _ _ M _ k (Same.refl M) (E.newOwn i hq rfl ⟨q, [], rfl, E.fresh hq, E.at_.freeM hq, upd_same, .nil⟩)⟩
theorem ss_ownD (i : Nat) {x : Str} {px : Pos} (hN : X.N.Nodup) (k : SS X g po (ρ.set i (.ownd [])) rest) (hi : X.N[i]? = some x := by rfl) (hx : Loc X.env.scope x := by first | exact Or.inl rfl | exact Or.inr rfl)
    (hs : swapsWith (.Dict [] [] pos') (some (.Name x px)) pos.line X.env = pure false := by rfl) (hf : X.fn x = true ∨ X.env.scope.names.lookup x = some .local := by first | exact .inl rfl | exact .inr rfl | assumption) : SS X g po ρ (.Assign [.Name x px] (.Dict [] [] pos') pos :: rest) :=
  ss_s1 (ps_set hN hi hx pe_dnewK hs hf) fun B σ M H D E O K => fun q hq => K _ _ M _ k (Same.refl M) (E.newOwn i hq rfl ⟨q, [], rfl, E.fresh hq, E.at_.freeM hq, upd_same, .nil⟩)
theorem ss_ownL (i : Nat) {x : Str} {px : Pos} (hN : X.N.Nodup) (T : Mo X.K X.mg) (he : J X g ρ e P1) (hk : ∀ d, P1 d → ∃ ds, Sq d ds ∧ SS X g po (ρ.set i (.own ds)) rest) (hi : X.N[i]? = some x := by rfl) (hx : Loc X.env.scope x := by first | exact Or.inl rfl | exact Or.inr rfl)
    (hs : swapsWith (.Call (.Name "list" p) [e] [] p2) (some (.Name x px)) pos.line X.env = pure false := by rfl) (hf : X.fn x = true ∨ X.env.scope.names.lookup x = some .local := by first | exact .inl rfl | exact .inr rfl | assumption)
    (hg : Gl X "list" := by rfl) (hst : starEach [e] X.env = (false, eval e X.env) :: starEach [] X.env := by rfl) : SS X g po ρ (.Assign [.Name x px] (.Call (.Name "list" p) [e] [] p2) pos :: rest) :=
  ss_s1 (ps_set hN hi hx (pe_callTy call_list_of hg T.list bt_list (pa_cons pe_W pa_nil hst) (he := hst)) hs hf) fun B σ M H D E O K => he.at_ E fun d v M1 H1 p E1 s iv => by
    obtain ⟨ds, hq, h⟩ := hk d p
    obtain ⟨a, vs, rfl, il, hx⟩ := E1.at_.sq (X := X) iv hq
    exact ⟨a, vs, rfl, hx, fun q hq => K _ _ M1 _ h s.mm (E1.newOwn i hq rfl ⟨q, vs, rfl, E1.fresh hq, E1.at_.freeM hq, upd_same, il⟩)⟩
/-- a, b = e1, e2 -/
theorem ss_par (i j : Nat) {px py pt : Pos} {kt k2 : Nat} {pt2 : Pos} (hc : X.calm = true) (hN : X.N.Nodup) (ha : J X g ρ a P1) (hb : J X g ρ b P2) (k : ∀ d1 d2, P1 d1 → P2 d2 → SS X g po ((ρ.set i (.ro d1)).set j (.ro d2)) rest) (hi : X.N[i]? = some x := by rfl) (hj : X.N[j]? = some y := by rfl) (hij : i ≠ j := by decide)
    (hx : X.env.scope.names.lookup x = some .local := by rfl) (hy : X.env.scope.names.lookup y = some .local := by rfl) (he : starEach [a, b] X.env = (false, eval a X.env) :: starEach [b] X.env := by rfl) (he2 : starEach [b] X.env = (false, eval b X.env) :: starEach [] X.env := by rfl)
    (hw : swappedStores [.Tuple [.Name x px, .Name y py] kt pt] (.Tuple [a, b] k2 pt2) X.env = pure (some [x, y]) := by rfl)
    (hs : swapsWithSole [.Tuple [.Name x px, .Name y py] kt pt] (.Tuple [a, b] k2 pt2) pos.line X.env = pure false := by rfl) : SS X g po ρ (.Assign [.Tuple [.Name x px, .Name y py] kt pt] (.Tuple [a, b] k2 pt2) pos :: rest) :=
  ss_s1 (ps_par hc hN hi hj hij hx hy (pa_cons pe_W (pa_cons pe_W pa_nil he2) he) hw hs) fun B σ M H D E O K => ha.at_ E fun d1 v1 M1 H1 p1 E1 s1 i1 => hb.at_ E1 fun d2 v2 M2 H2 p2 E2 s2 i2 => ⟨v1, v2, rfl, K _ _ M2 H2 (k d1 d2 p1 p2) (s1.mm.trans s2.mm) ((E2.ro i (i1.mono s2.mm)).ro j i2)⟩
theorem ss_par3 (i j l : Nat) {z : Str} {px py pz pt : Pos} {kt k2 : Nat} {pt2 : Pos} (hc : X.calm = true) (hN : X.N.Nodup) (ha : J X g ρ a P1) (hb : J X g ρ b P2) (hcc : J X g ρ c P3) (k : ∀ d1 d2 d3, P1 d1 → P2 d2 → P3 d3 → SS X g po (((ρ.set i (.ro d1)).set j (.ro d2)).set l (.ro d3)) rest) (hi : X.N[i]? = some x := by rfl) (hj : X.N[j]? = some y := by rfl) (hl : X.N[l]? = some z := by rfl) (hij : i ≠ j := by decide) (hil : i ≠ l := by decide) (hjl : j ≠ l := by decide)
    (hx : X.env.scope.names.lookup x = some .local := by rfl) (hy : X.env.scope.names.lookup y = some .local := by rfl) (hz : X.env.scope.names.lookup z = some .local := by rfl) (he : starEach [a, b, c] X.env = (false, eval a X.env) :: starEach [b, c] X.env := by rfl) (he2 : starEach [b, c] X.env = (false, eval b X.env) :: starEach [c] X.env := by rfl) (he3 : starEach [c] X.env = (false, eval c X.env) :: starEach [] X.env := by rfl)
    (hw : swappedStores [.Tuple [.Name x px, .Name y py, .Name z pz] kt pt] (.Tuple [a, b, c] k2 pt2) X.env = pure (some [x, y, z]) := by rfl)
    (hs : swapsWithSole [.Tuple [.Name x px, .Name y py, .Name z pz] kt pt] (.Tuple [a, b, c] k2 pt2) pos.line X.env = pure false := by rfl) : SS X g po ρ (.Assign [.Tuple [.Name x px, .Name y py, .Name z pz] kt pt] (.Tuple [a, b, c] k2 pt2) pos :: rest) :=
  ss_s1 (ps_par3 hc hN hi hj hl hij hil hjl hx hy hz (pa_cons pe_W (pa_cons pe_W (pa_cons pe_W pa_nil he3) he2) he) hw hs) fun B σ M H D E O K => ha.at_ E fun d1 v1 M1 H1 p1 E1 s1 i1 => hb.at_ E1 fun d2 v2 M2 H2 p2 E2 s2 i2 => hcc.at_ E2 fun d3 v3 M3 H3 p3 E3 s3 i3 =>
    ⟨v1, v2, v3, rfl, K _ _ M3 H3 (k d1 d2 d3 p1 p2 p3) ((s1.mm.trans s2.mm).trans s3.mm) (((E3.ro i ((i1.mono s2.mm).mono s3.mm)).ro j (i2.mono s3.mm)).ro l i3)⟩
/-- target = e -/
theorem ss_asg (vs : List Nat) (he : J X g ρ e P) (k : ∀ d, P d → ∃ ρ', JG X g ρ vs tg d ρ' ∧ SS X g po ρ' rest) (hs : swapsWithSole [tg] e pos.line X.env = pure false := by rfl) (hw : swappedStores [tg] e X.env = pure none := by rfl)
    (h1 : (assignEach [tg] X.env).map (·.2) = [assign tg X.env] := by rfl) : SS X g po ρ (.Assign [tg] e pos :: rest) :=
  ss_s1 (ps_asg pe_W pg_W hs hw h1) fun B σ M H D E O K => he.at_ E fun d v M1 H1 p E1 s iv => by
    obtain ⟨ρ', hg, h⟩ := k d p
    exact hg B σ M1 H1 v _ E1 iv fun σ' _ E' => K ρ' σ' M1 H1 h s.mm E'
/-- the rest is not reached, or is: return, pass, break -/
theorem ss_ret (he : J X g ρ e P) (k : ∀ d, P d → po.R d) : SS X g po ρ (.Return (some e) pos :: rest) := ss_s1 (ps_ret pe_W) fun B σ M H D E O K => he.at_ E fun d v M1 H1 p E1 s iv => O.rt d v M1 H1 (k d p) E1.st iv
theorem ss_retN (k : po.R .non) : SS X g po ρ (.Return none pos :: rest) := ss_s1 ps_retN fun B σ M H D E O K => O.rt .non .non M H k E.st .non
theorem ss_pass (k : SS X g po ρ rest) : SS X g po ρ (.Pass pos :: rest) := ss_s1 ps_pass fun B σ M H D E O K => K ρ σ M H k (Same.refl M) E
theorem ss_break (k : po.B ρ) : SS X g po ρ (.Break pos :: rest) := ss_s1 ps_break fun B σ M H D E O K => O.bk ρ σ M H k (Same.refl M) E
/-- if -/
def Po.to (po : Po) (X : Cx) (g : Bg) (rest : List Stmt) : Po := { po with N := fun ρ' => SS X g po ρ' rest }
theorem Po.Of.to {D : Ends} (O : po.Of g B M D) : (po.to X g rest).Of g B M { D with nx := fun σ' H' => Wb X rest D σ' H' } := ⟨O.rt, fun ρ' σ' M' H' h s E => (show SS X g po ρ' rest from h) B σ' M' H' D E (O.on s), O.ct, O.bk⟩
theorem ss_if (hc : JT X g ρ c Pb) (k1 : Pb true → SS X g (po.to X g rest) ρ body) (k2 : Pb false → SS X g (po.to X g rest) ρ orelse) : SS X g po ρ (.If c body orelse pos :: rest) :=
  ss_s1 (ps_if pt_W pss_W pss_W) fun B σ M H D E O K => hc.at_ E fun b M1 H1 p E1 s => by
    cases b with
    | true => exact k1 p B σ M1 H1 _ E1 (O.on s.mm).to
    | false => exact k2 p B σ M1 H1 _ E1 (O.on s.mm).to
/-- if without else -/
theorem ss_if0 (hc : JT X g ρ c Pb) (k1 : Pb true → SS X g (po.to X g rest) ρ body) (k2 : Pb false → SS X g po ρ rest) : SS X g po ρ (.If c body [] pos :: rest) := ss_if hc k1 fun h => ss_nil (k2 h)
/-- if c: raise .. (never) -/
theorem ss_ifNo {u : Bool} (hc : JTD X g ρ c u) (hu : u = false) (k : SS X g po ρ rest) : SS X g po ρ (.If c body [] pos :: rest) := ss_if0 hc (fun e => by rw [hu] at e; cases e) fun _ => k
/-- for -/
theorem ss_for (vs : List Nat) (hc : X.calm = true) (hp : PassesOwn (model X.prog X.w) X.A X.env X.xe) (hi : JI X g ρ tg iter Pi) (I : List D → Nat → List Slot → Prop) (h0 : ∀ its, Pi its → I its 0 ρ)
    (turn : ∀ its i d ρ1, Pi its → its[i]? = some d → I its i ρ1 → ∃ ρ', JG X g ρ1 vs tg d ρ' ∧ SS X g { R := po.R, N := I its (i + 1), C := I its (i + 1), B := fun ρ' => SS X g po ρ' rest } ρ' body)
    (fin : ∀ its ρ1, Pi its → I its its.length ρ1 → SS X g po ρ1 rest) (hs : ∀ x, foldedSetIterable iter X.env x = pure x := by intro _; rfl) : SS X g po ρ (.For tg iter body [] pos :: rest) :=
  ss_s1 (ps_for hp hc pi_W pg_W pss_W hs) fun B σ M H D E O K => hi B σ M H E _ fun its Jt G Y M1 H1 hp s1 wk hz hG hY => by
    have E1 := E.step s1
    refine for_it wk (D := { D with nx := fun σ' H' => Wb X rest D σ' H' }) (fun i σ' H' => ∃ ρ' M', I its i ρ' ∧ Same M1 M' ∧ Ev B g M' H' σ' ρ') ⟨ρ, M1, h0 its hp, Same.refl _, E1⟩ ?_ ?_ ?_
    · rintro i σ' H' _ ⟨ρ', M', _, sm, E'⟩
      exact hG M' H' sm E'.at_
    · rintro i x σ' H2 H3 hi ⟨ρ', M', hI, sm, E'⟩ hy
      obtain ⟨M3, d, hd, s3, iv⟩ := hY i M' H2 x H3 hi sm E'.at_ hy
      obtain ⟨ρ2, hg, hb⟩ := turn its i d ρ' hp hd hI
      refine hg B σ' M3 H3 x _ (E'.step s3) iv fun σ2 _ E2 => ?_
      have O3 := (O.on (s1.mm.trans (sm.trans s3.mm)))
      exact hb B σ2 M3 H3 _ E2 ⟨O.rt, fun ρ4 σ4 M4 H4 h s4 E4 => ⟨ρ4, M4, h, (sm.trans s3.mm).trans s4, E4⟩, fun ρ4 σ4 M4 H4 h s4 E4 => ⟨ρ4, M4, h, (sm.trans s3.mm).trans s4, E4⟩, fun ρ4 σ4 M4 H4 h s4 E4 => h B σ4 M4 H4 D E4 (O3.on s4)⟩
    · rintro σ' H' ⟨ρ', M', hI, sm, E'⟩
      exact fin its ρ' hp hI B σ' M' H' D E' (O.on (s1.mm.trans sm))
end
end FD
end
section
set_option maxHeartbeats 2000000
/-! rules for statements that write; reading one's own -/
namespace FD
open PySem PySem.Spec PyProof.Rows L2
section
variable {X : Cx} {g : Bg} {ρ ρ1 ρ2 : List Slot} {e a b c o e1 e2 elt tg iter : Expr} {es ifs : List Expr} {P P1 P2 P3 : D → Prop} {Ps Pi : List D → Prop} {d d1 d2 : D} {pos p apos cpos pos' p2 px tpos : Pos} {x y m : Str} {te : TE} {B : Ba} {σ : L2.St} {M H M' H' : Hp} {v : V} {Q : VK} {ds ds' its : List D} {s z : Str} {ss zs : List Str} {i j n k : Nat} {vs : List Nat} {scope : Scope} {st : Stmt} {rest body orelse : List Stmt} {po : Po} {Pb : Bool → Prop} {q xa : Addr} {ho : HO} {sl sl' : Slot} {C : Addr} {fs : List (Str × D)} {kvs : List (Str × D)}
/-! ### reading one's own list -/
theorem Stp.thaw {p : Addr} {o : HO} (hM : M p = none) (s : Stp g (upd M p o) H M' H') (h : At g M H) : Stp g M H (fun b => if b = p then none else M' b) H' := by
  refine ⟨⟨fun b u e => ?_, fun b ns e => ?_⟩, fun b u e => ?_, fun b h1 h2 => ?_, s.hh, s.dom⟩
  · by_cases q : b = p
    · simp only [q, if_true] at e; cases e
    · simp only [q, if_false] at e; exact s.at_.sub b u e
  · obtain ⟨h1, i, c, z, n, h2, h3, h4⟩ := s.at_.bag b ns e
    refine ⟨by simp only [h1]; exact ite_self _, i, c, z, n, h2, ?_, h4⟩
    obtain ⟨_, _, _, _, _, g2, g3, _⟩ := h.bag b ns e
    have q : ns.1 ≠ p := ne_of_none g3 hM
    simp only [q, if_false]
    exact h3
  · have q : b ≠ p := ne_of_none e hM
    simp only [q, if_false]
    exact s.mm b u (by rw [upd_ne q]; exact e)
  · by_cases q : b = p
    · simp only [q, if_true]
    · simp only [q, if_false]
      exact s.fr b h1 (by rw [upd_ne q]; exact h2)
theorem Is.flat (h : Is M d v) (f : d.flat = true) : Is M' d v := by
  cases h with
  | non => exact .non
  | bl b => exact .bl b
  | int i => exact .int i
  | str s => exact .str s
  | adr a => cases f
  | tup _ _ => cases f
  | lst _ _ => cases f
  | dic _ _ => cases f
  | ins _ _ => cases f
theorem own_core (i : Nat) (h : ρ[i]? = some (.own ds)) (E : Ev B g M H σ ρ) : ∃ (p : Addr) (vs : List V), M p = none ∧ Ev B g (upd M p (.lst vs)) H σ (ρ.set i (.ro (.lst ds))) := by
  obtain ⟨o, e1, p, vs, rfl, h0, hM, hH, il⟩ := E.ok i _ h
  exact ⟨p, vs, hM, E.frz h rfl e1 h0 hM hH (.lst upd_same (il.mono fun b u e => by rw [upd_ne (ne_of_none e hM)]; exact e))⟩
theorem j_own (i : Nat) (hJ : J X g (ρ.set i (.ro (.lst ds))) e P) (hf : ∀ d, P d → d.flat = true) (h : ρ[i]? = some (.own ds) := by rfl) : J X g ρ e P := .mk fun B σ M H E Q q => by
  obtain ⟨p, vs, hM, E2⟩ := own_core i h E
  exact hJ B σ _ H E2 Q fun d v M' H' pd s iv => q d v _ H' pd (s.thaw hM E.at_) (iv.flat (hf d pd))
theorem jt_own (i : Nat) (hJ : JT X g (ρ.set i (.ro (.lst ds))) e Pb) (h : ρ[i]? = some (.own ds) := by rfl) : JT X g ρ e Pb := .mk fun B σ M H E Q q => by
  obtain ⟨p, vs, hM, E2⟩ := own_core i h E
  exact hJ B σ _ H E2 Q fun d M' H' pd s => q d _ H' pd (s.thaw hM E.at_)
/-! ### writing -/
theorem Ev.gown (E : Ev B g M H σ ρ) (h : ρ[i]? = some (.own ds)) : ∃ p vs, σ[i]? = some (some (.ref p)) ∧ B.H p = none ∧ M p = none ∧ H p = some (.lst vs) ∧ IsL M ds vs := by
  obtain ⟨o, e1, p, vs, rfl, h0, hM, hH, il⟩ := E.ok i _ h
  exact ⟨p, vs, e1, h0, hM, hH, il⟩
/-- x.m(e, ..), x one's own list -/
theorem ss_mt {id : String} {name : Str} {r : V → List V → Hp → VK → Prop} (i : Nat) (slot : PySem.Slot "list" name id) (hty : typeOf (.builtin id) = pure (.type "method_descriptor")) (hm : MtR X id r) (ha : JA X g ρ (e :: es) Ps) (h : ρ[i]? = some (.own ds))
    (k : ∀ ds2, Ps ds2 → ∃ ds3, SS X g po (ρ.set i (.own ds3)) rest ∧ ∀ (p : Addr) (vs vs2 : List V) (M H : Hp) (Q : VK), At g M H → H p = some (.lst vs) → IsL M ds vs → IsL M ds2 vs2 → vs.length ≤ sizeLine → (∀ w vs3, IsL M ds3 vs3 → Q w (upd H p (.lst vs3))) → r (.ref p) vs2 H Q)
    (hN : X.N[i]? = some x := by rfl) (hv : Vis X.env.scope x := by first | exact Or.inl rfl | exact Or.inr (Or.inl rfl)) (hd : (x == ("__debug__" : Str)) = false := by decide) (hcd : (x == ("__classdict__" : Str)) = false := by decide) (hbase : attributeBase (.Name x px) name X.env (eval (.Name x px) X.env) = eval (.Name x px) X.env := by rfl)
    (hfew : ((backTo cpos (starEach (e :: es) X.env)).all (fun x => !x.1) && (backToKw cpos (keywordEach [] X.env)).all (fun x => x.1.isSome)
      && decide ((e :: es).length + ([] : List Keyword).length + (if ([] : List Keyword).isEmpty then 0 else 1) < 30)) = true := by rfl)
    (hline : (apos.endLine == cpos.line) = true := by rfl) (hs : starEach (e :: es) X.env = (false, eval e X.env) :: starEach es X.env := by rfl) (hplain : (backTo cpos (starEach es X.env)).any (·.1) = false := by rfl)
    (hsw : swapsWith (.Call (.Attribute (.Name x px) name apos) (e :: es) [] cpos) none pos.line X.env = pure false := by rfl) (hz : ds.length ≤ sizeLine) :
    SS X g po ρ (.Expr (.Call (.Attribute (.Name x px) name apos) (e :: es) [] cpos) pos :: rest) :=
  ss_s1 (ps_expr (pe_bm PySem.F.plainAttrs_list slot hty hm (pe_var hN hv hd hcd) pa_W hbase hfew hline hs hplain) hsw) fun B σ M H D E O K => by
    obtain ⟨p, vs, e1, h0, hM, hH, il⟩ := E.gown h
    refine ⟨.ref p, e1, .inl ⟨rfl, vs, SqL.of hH⟩, ha.at_ E fun ds2 vs2 M1 H1 p1 E1 s1 il2 => ?_⟩
    obtain ⟨ds3, hk, hr⟩ := k ds2 p1
    obtain ⟨p', vs', e1', h0', hM', hH', il'⟩ := E1.gown h
    rw [e1] at e1'
    cases e1'
    refine hr p vs' vs2 M1 H1 _ E1.at_ hH' il' il2 (by rw [il'.length]; exact hz) fun w vs3 il3 => ?_
    exact K _ _ M1 _ hk s1.mm (E1.mut h rfl e1 h0 hM' rfl ⟨p, vs3, rfl, h0, hM', upd_same, il3⟩)
theorem ss_append (i : Nat) (ha : J X g ρ e P) (h : ρ[i]? = some (.own ds)) (hz : ds.length < sizeLine) (k : ∀ d, P d → SS X g po (ρ.set i (.own (ds ++ [d]))) rest)
    (hN : X.N[i]? = some x := by rfl) (hv : Vis X.env.scope x := by first | exact Or.inl rfl | exact Or.inr (Or.inl rfl)) (hd : (x == ("__debug__" : Str)) = false := by decide) (hcd : (x == ("__classdict__" : Str)) = false := by decide) (hbase : attributeBase (.Name x px) "append" X.env (eval (.Name x px) X.env) = eval (.Name x px) X.env := by rfl)
    (hfew : ((backTo cpos (starEach [e] X.env)).all (fun x => !x.1) && (backToKw cpos (keywordEach [] X.env)).all (fun x => x.1.isSome)
      && decide (([e] : List Expr).length + ([] : List Keyword).length + (if ([] : List Keyword).isEmpty then 0 else 1) < 30)) = true := by rfl)
    (hline : (apos.endLine == cpos.line) = true := by rfl) (hs : starEach [e] X.env = (false, eval e X.env) :: starEach [] X.env := by rfl) (hplain : (backTo cpos (starEach [] X.env)).any (·.1) = false := by rfl)
    (hsw : swapsWith (.Call (.Attribute (.Name x px) "append" apos) [e] [] cpos) none pos.line X.env = pure false := by rfl) :
    SS X g po ρ (.Expr (.Call (.Attribute (.Name x px) "append" apos) [e] [] cpos) pos :: rest) :=
  ss_mt i PySem.F.slot_list_append PySem.F.type_list_append (mt_append) (ja_cons ha ja_nil hs) h (by
    rintro _ ⟨d, _, rfl, hp, rfl⟩
    refine ⟨_, k d hp, fun p vs vs2 M H Q A hH il il2 _ q => ?_⟩
    cases il2 with
    | cons i2 t =>
      cases t
      exact ⟨p, vs, _, rfl, rfl, hH, by rw [il.length]; exact hz, q _ _ (il.append (.one i2))⟩) hN hv hd hcd hbase hfew hline hs hplain hsw (Nat.le_of_lt hz)
theorem ss_extend (i : Nat) (ha : J X g ρ e P) (h : ρ[i]? = some (.own ds)) (hk : ∀ d, P d → ∃ l, d = .lst l ∧ ds.length + l.length ≤ sizeLine ∧ SS X g po (ρ.set i (.own (ds ++ l))) rest) (hz : ds.length ≤ sizeLine)
    (hN : X.N[i]? = some x := by rfl) (hv : Vis X.env.scope x := by first | exact Or.inl rfl | exact Or.inr (Or.inl rfl)) (hd : (x == ("__debug__" : Str)) = false := by decide) (hcd : (x == ("__classdict__" : Str)) = false := by decide) (hbase : attributeBase (.Name x px) "extend" X.env (eval (.Name x px) X.env) = eval (.Name x px) X.env := by rfl)
    (hfew : ((backTo cpos (starEach [e] X.env)).all (fun x => !x.1) && (backToKw cpos (keywordEach [] X.env)).all (fun x => x.1.isSome)
      && decide (([e] : List Expr).length + ([] : List Keyword).length + (if ([] : List Keyword).isEmpty then 0 else 1) < 30)) = true := by rfl)
    (hline : (apos.endLine == cpos.line) = true := by rfl) (hs : starEach [e] X.env = (false, eval e X.env) :: starEach [] X.env := by rfl) (hplain : (backTo cpos (starEach [] X.env)).any (·.1) = false := by rfl)
    (hsw : swapsWith (.Call (.Attribute (.Name x px) "extend" apos) [e] [] cpos) none pos.line X.env = pure false := by rfl) :
    SS X g po ρ (.Expr (.Call (.Attribute (.Name x px) "extend" apos) [e] [] cpos) pos :: rest) :=
  ss_mt i PySem.F.slot_list_extend PySem.F.type_list_extend (mt_extend) (ja_cons ha ja_nil hs) h (by
    rintro _ ⟨d, _, rfl, hp, rfl⟩
    obtain ⟨l, rfl, hz, hk⟩ := hk d hp
    refine ⟨_, hk, fun p vs vs2 M H Q A hH il il2 _ q => ?_⟩
    cases il2 with
    | cons i2 t =>
      cases t
      cases i2 with
      | lst e2 l2 => exact ⟨p, _, vs, _, rfl, rfl, hH, A.sub _ _ e2, by rw [il.length, l2.length]; exact hz, q _ _ (il.append l2)⟩) hN hv hd hcd hbase hfew hline hs hplain hsw hz
theorem ss_insert {e2 : Expr} (i : Nat) (ha : J X g ρ e P1) (hb : J X g ρ e2 P2) (h : ρ[i]? = some (.own ds)) (hz : ds.length < sizeLine) (hk : ∀ d1 d2, P1 d1 → P2 d2 → ∃ n : Nat, d1 = .int n ∧ n ≤ ds.length ∧ SS X g po (ρ.set i (.own (ds.take n ++ [d2] ++ ds.drop n))) rest)
    (hN : X.N[i]? = some x := by rfl) (hv : Vis X.env.scope x := by first | exact Or.inl rfl | exact Or.inr (Or.inl rfl)) (hd : (x == ("__debug__" : Str)) = false := by decide) (hcd : (x == ("__classdict__" : Str)) = false := by decide) (hbase : attributeBase (.Name x px) "insert" X.env (eval (.Name x px) X.env) = eval (.Name x px) X.env := by rfl)
    (hfew : ((backTo cpos (starEach [e, e2] X.env)).all (fun x => !x.1) && (backToKw cpos (keywordEach [] X.env)).all (fun x => x.1.isSome)
      && decide (([e, e2] : List Expr).length + ([] : List Keyword).length + (if ([] : List Keyword).isEmpty then 0 else 1) < 30)) = true := by rfl)
    (hline : (apos.endLine == cpos.line) = true := by rfl) (hs : starEach [e, e2] X.env = (false, eval e X.env) :: starEach [e2] X.env := by rfl) (hs2 : starEach [e2] X.env = (false, eval e2 X.env) :: starEach [] X.env := by rfl) (hplain : (backTo cpos (starEach [e2] X.env)).any (·.1) = false := by rfl)
    (hsw : swapsWith (.Call (.Attribute (.Name x px) "insert" apos) [e, e2] [] cpos) none pos.line X.env = pure false := by rfl) :
    SS X g po ρ (.Expr (.Call (.Attribute (.Name x px) "insert" apos) [e, e2] [] cpos) pos :: rest) :=
  ss_mt i PySem.F.slot_list_insert PySem.F.type_list_insert (mt_insert) (ja_cons ha (ja_cons hb ja_nil hs2) hs) h (by
    rintro _ ⟨d1, _, rfl, hp, d2, _, rfl, hp2, rfl⟩
    obtain ⟨n, rfl, hn, hk⟩ := hk d1 d2 hp hp2
    refine ⟨_, hk, fun p vs vs2 M H Q A hH il il2 hl q => ?_⟩
    cases il2 with
    | cons i1 t =>
      cases t with
      | cons i2 t =>
        cases t
        cases i1
        have l63 := line63
        exact ⟨p, vs, n, _, rfl, rfl, hH, by rw [il.length]; exact hz, by omega, by omega, by
          rw [Int.toNat_natCast]
          exact q _ _ (((il.take n).append (.one i2)).append (il.drop n))⟩) hN hv hd hcd hbase hfew hline hs hplain hsw (Nat.le_of_lt hz)
theorem ss_pop (i : Nat) (ha : J X g ρ e P1) (h : ρ[i]? = some (.own ds)) (hz : ds.length ≤ sizeLine) (hk : ∀ d1, P1 d1 → ∃ n : Nat, d1 = .int n ∧ n < ds.length ∧ SS X g po (ρ.set i (.own (ds.eraseIdx n))) rest)
    (hN : X.N[i]? = some x := by rfl) (hv : Vis X.env.scope x := by first | exact Or.inl rfl | exact Or.inr (Or.inl rfl)) (hd : (x == ("__debug__" : Str)) = false := by decide) (hcd : (x == ("__classdict__" : Str)) = false := by decide) (hbase : attributeBase (.Name x px) "pop" X.env (eval (.Name x px) X.env) = eval (.Name x px) X.env := by rfl)
    (hfew : ((backTo cpos (starEach [e] X.env)).all (fun x => !x.1) && (backToKw cpos (keywordEach [] X.env)).all (fun x => x.1.isSome)
      && decide (([e] : List Expr).length + ([] : List Keyword).length + (if ([] : List Keyword).isEmpty then 0 else 1) < 30)) = true := by rfl)
    (hline : (apos.endLine == cpos.line) = true := by rfl) (hs : starEach [e] X.env = (false, eval e X.env) :: starEach [] X.env := by rfl) (hplain : (backTo cpos (starEach [] X.env)).any (·.1) = false := by rfl)
    (hsw : swapsWith (.Call (.Attribute (.Name x px) "pop" apos) [e] [] cpos) none pos.line X.env = pure false := by rfl) :
    SS X g po ρ (.Expr (.Call (.Attribute (.Name x px) "pop" apos) [e] [] cpos) pos :: rest) :=
  ss_mt i PySem.F.slot_list_pop PySem.F.type_list_pop (mt_popAt) (ja_cons ha ja_nil hs) h (by
    rintro _ ⟨d1, _, rfl, hp, rfl⟩
    obtain ⟨n, rfl, hn, hk⟩ := hk d1 hp
    refine ⟨_, hk, fun p vs vs2 M H Q A hH il il2 hl q => ?_⟩
    cases il2 with
    | cons i1 t =>
      cases t
      cases i1
      have l63 := line63
      have hv : n < vs.length := by rw [il.length]; exact hn
      exact ⟨p, vs, n, n, vs[n], rfl, rfl, hH, by omega, by omega, by rw [seqIndex_of (by omega) (by omega)]; simp, List.getElem?_eq_getElem hv, q _ _ (il.eraseIdx n)⟩) hN hv hd hcd hbase hfew hline hs hplain hsw hz
/-- x[i] = e, x one's own list -/
theorem ss_setitem {ie : Expr} {spos : Pos} (i : Nat) (he : J X g ρ e P1) (hi : J X g ρ ie P2) (h : ρ[i]? = some (.own ds)) (hk : ∀ d1 d2, P1 d1 → P2 d2 → ∃ n : Nat, d2 = .int n ∧ n < ds.length ∧ SS X g po (ρ.set i (.own (ds.set n d1))) rest)
    (hN : X.N[i]? = some x := by rfl) (hv : Vis X.env.scope x := by first | exact Or.inl rfl | exact Or.inr (Or.inl rfl)) (hd : (x == ("__debug__" : Str)) = false := by decide) (hcd : (x == ("__classdict__" : Str)) = false := by decide)
    (hsa : ∀ v, assign (.Subscript (.Name x px) ie spos) X.env v = (do
      let ov ← holding [v] (eval (.Name x px) X.env)
      let iv ← holding [v, ov] (eval ie X.env)
      standAt spos
      holding [v, ov, iv] (setItem ov iv v)
      release [v, ov, iv] []) := by intro _; rfl) (hs : swapsWithSole [.Subscript (.Name x px) ie spos] e pos.line X.env = pure false := by rfl) (hw : swappedStores [.Subscript (.Name x px) ie spos] e X.env = pure none := by rfl)
    (h1 : (assignEach [.Subscript (.Name x px) ie spos] X.env).map (·.2) = [assign (.Subscript (.Name x px) ie spos) X.env] := by rfl) : SS X g po ρ (.Assign [.Subscript (.Name x px) ie spos] e pos :: rest) :=
  ss_s1 (ps_asg pe_W (pg_sub (pe_var hN hv hd hcd) pe_W set_list hsa) hs hw h1) fun B σ M H D E O K => he.at_ E fun d v M1 H1 p E1 s iv => by
    obtain ⟨q, vs, e1, h0, hM, hH, il⟩ := E1.gown h
    refine ⟨.ref q, e1, hi.at_ E1 fun d2 v2 M2 H2 p2 E2 s2 i2 => ?_⟩
    obtain ⟨n, rfl, hn, hk⟩ := hk d d2 p p2
    cases i2
    obtain ⟨q', vs', e1', h0', hM', hH', il'⟩ := E2.gown h
    rw [e1] at e1'
    cases e1'
    have hv : n < vs'.length := by rw [il'.length]; exact hn
    refine ⟨q, vs', n, n, rfl, rfl, hH', ?_, ?_⟩
    · unfold ixN
      rw [if_pos (by omega)]
      simp [hv]
    · exact K _ _ M2 _ hk (s.mm.trans s2.mm) (E2.mut h rfl e1 h0 hM' rfl ⟨q, _, rfl, h0, hM', upd_same, IsL.set (iv.mono s2.mm) n il'⟩)
theorem IsK.app {v : V} {d : D} (h : Is M d v) (k : Str) : ∀ {kvs : List (Str × D)} {ws : List (Key × V)}, IsK M kvs ws → IsK M (kvs ++ [(k, d)]) (ws ++ [(Sum.inr k, v)])
  | _, _, .nil => .cons (x := k) h .nil
  | _, _, .cons (x := y) a t => .cons (x := y) a (t.app h k)
theorem IsK.append {v : V} {d : D} (h : Is M d v) (k : Str) : ∀ (kvs : List (Str × D)) (ws : List (Key × V)), IsK M kvs ws → kvs.lookup k = none → putK ws (Sum.inr k) v = ws ++ [(Sum.inr k, v)] ∧ IsK M (kvs ++ [(k, d)]) (ws ++ [(Sum.inr k, v)]) := by
  intro kvs ws l e
  constructor
  · have : (ws.any fun kv => decide (kv.1 = Sum.inr k)) = false := by
      have := l.some k
      rw [e] at this
      unfold valV at this
      rw [Option.isSome_map] at this
      rw [← Bool.not_eq_true, List.any_eq_true]
      rintro ⟨x, hx, hk⟩
      have h2 := (List.find?_isSome (p := fun kv : Key × V => decide (kv.1 = Sum.inr k))).mpr ⟨x, hx, hk⟩
      rw [h2] at this
      cases this
    unfold putK
    rw [this]
    rfl
  · exact l.app h k
/-- x[k] = e, x one's own dict, the key new -/
theorem ss_dput {ie : Expr} {spos : Pos} (hu : X.A.units + 1 < cLine) (i : Nat) (he : J X g ρ e P1) (hi : JD X g ρ ie (.str s)) (h : ρ[i]? = some (.ownd kvs)) (hz : kvs.length < sizeLine) (hn : kvs.lookup s = none) (hk : ∀ d1, P1 d1 → SS X g po (ρ.set i (.ownd (kvs ++ [(s, d1)]))) rest)
    (hN : X.N[i]? = some x := by rfl) (hv : Vis X.env.scope x := by first | exact Or.inl rfl | exact Or.inr (Or.inl rfl)) (hd : (x == ("__debug__" : Str)) = false := by decide) (hcd : (x == ("__classdict__" : Str)) = false := by decide)
    (hs : swapsWith e (some (.Subscript (.Name x px) ie spos)) pos.line X.env = pure false := by rfl) : SS X g po ρ (.Assign [.Subscript (.Name x px) ie spos] e pos :: rest) :=
  ss_s1 (ps_dput hu (pe_var hN hv hd hcd) pe_W pe_W hs) fun B σ M H D E O K => he.at_ E fun d v M1 H1 p E1 s1 iv => by
    obtain ⟨o, e1, q, ws, rfl, h0, hM, hH, il⟩ := E1.ok i _ h
    refine ⟨.ref q, e1, hi.at_ E1 fun d2 v2 M2 H2 p2 E2 s2 i2 => ?_⟩
    subst p2
    cases i2
    obtain ⟨o, e1', q', ws', rfl, h0', hM', hH', il'⟩ := E2.ok i _ h
    rw [e1] at e1'
    cases e1'
    obtain ⟨a1, a2⟩ := IsK.append (iv.mono s2.mm) s _ _ il' hn
    refine ⟨q, _, rfl, DPut.k (k := Sum.inr s) hH' (by rw [il'.length]; exact hz), ?_⟩
    rw [a1]
    exact K _ _ M2 _ (hk d p) (s1.mm.trans s2.mm) (E2.mut h rfl e1 h0 hM' rfl ⟨q, _, rfl, h0, hM', upd_same, a2⟩)
/-- k in x, k not in x, one's own dict -/
theorem Ev.gownd (E : Ev B g M H σ ρ) (h : ρ[i]? = some (.ownd kvs)) : ∃ p vs, σ[i]? = some (some (.ref p)) ∧ B.H p = none ∧ M p = none ∧ H p = some (.dK vs) ∧ IsK M kvs vs := by
  obtain ⟨o, e1, p, vs, rfl, h0, hM, hH, il⟩ := E.ok i _ h
  exact ⟨p, vs, e1, h0, hM, hH, il⟩
theorem jt_ownIn (hu : X.A.units + 1 < cLine) (i : Nat) (ha : JD X g ρ a (.str s)) (h : ρ[i]? = some (.ownd kvs) := by rfl) (hN : X.N[i]? = some x := by rfl) (hv : Vis X.env.scope x := by first | exact Or.inl rfl | exact Or.inr (Or.inl rfl)) (hd : (x == ("__debug__" : Str)) = false := by decide) (hcd : (x == ("__classdict__" : Str)) = false := by decide)
    (hm : behindInMarks .In (.Name x px) = false := by rfl) : JTD X g ρ (.Compare a [.In] [.Name x px] pos) (kvs.lookup s).isSome :=
  jt_of (pt_cmp (pc_din hu pe_W (pe_var hN hv hd hcd)) hm) fun B σ M H E Q q => ha.at_ E fun d1 v1 M1 H1 p1 E1 s1 i1 => by
    subst p1
    cases i1
    obtain ⟨p, vs, e1, _, _, hH, il⟩ := E1.gownd h
    exact ⟨_, e1, p, _, rfl, DGet.k (k := Sum.inr s) hH, _, rfl, by rw [il.some s]; exact q _ M1 H1 rfl s1⟩
/-- self.f = e in an __init__ -/
theorem IsF.put {f : Str} {v : V} {d : D} (iv : Is M d v) : ∀ {fs : List (Str × D)} {ws : List (Str × V)}, IsF M fs ws → fs.lookup f = none → IsF M (fs ++ [(f, d)]) (putF f v ws)
  | _, _, .nil, _ => .cons iv .nil
  | _, _, .cons (x := y) (d := d') (v := v') (ds := ds') (vs := vs') a t, e => by
    by_cases q : (f == y) = true
    · simp only [List.lookup, q] at e
      cases e
    · simp only [List.lookup, q] at e
      have ne : ¬ y = f := fun z => q (by rw [z]; exact beq_self_eq_true f)
      show IsF M ((y, d') :: (ds' ++ [(f, d)])) (if y = f then (y, v) :: vs' else (y, v') :: putF f v vs')
      rw [if_neg ne]
      exact .cons a (IsF.put iv t e)
theorem ss_fld {f : Str} {fpos : Pos} (i : Nat) (he : J X g ρ e P1) (h : ρ[i]? = some (.slf xa C fs)) (c : Cls X.K C) (n : NoAttr X.K C f) (hz : fs.length < 1000) (hn : fs.lookup f = none) (hk : ∀ d1, P1 d1 → SS X g po (ρ.set i (.slf xa C (fs ++ [(f, d1)]))) rest)
    (hN : X.N[i]? = some x := by rfl) (hv : Vis X.env.scope x := by first | exact Or.inl rfl | exact Or.inr (Or.inl rfl)) (hd : (x == ("__debug__" : Str)) = false := by decide) (hcd : (x == ("__classdict__" : Str)) = false := by decide)
    (hs : swapsWith e (some (.Attribute (.Name x px) f fpos)) pos.line X.env = pure false := by rfl) : SS X g po ρ (.Assign [.Attribute (.Name x px) f fpos] e pos :: rest) :=
  ss_s1 (ps_fld (pe_var hN hv hd hcd) pe_W hs) fun B σ M H D E O K => he.at_ E fun d v M1 H1 p E1 s1 iv => by
    obtain ⟨o, e1, dx, ws, rfl, h0, hM, hH, il⟩ := E1.ok i _ h
    refine ⟨.ref xa, e1, xa, C, dx, ws, rfl, hH, c, n, by rw [il.length]; exact hz, ?_⟩
    exact K _ _ M1 _ (hk d p) s1.mm (E1.mut h rfl e1 h0 hM rfl ⟨dx, _, rfl, h0, hM, upd_same, il.put iv hn⟩)
/-- reading a field of self in an __init__ (what stands there is for good) -/
theorem jd_slf {f : Str} {fpos : Pos} (i : Nat) (c : Cls X.K C) (n : NoAttr X.K C f) (hl : fs.lookup f = some d) (h : ρ[i]? = some (.slf xa C fs) := by rfl) (hN : X.N[i]? = some x := by rfl) (hv : Vis X.env.scope x := by first | exact Or.inl rfl | exact Or.inr (Or.inl rfl)) (hd : (x == ("__debug__" : Str)) = false := by decide) (hcd : (x == ("__classdict__" : Str)) = false := by decide)
    (hb : attributeBase (.Name x px) f X.env (eval (.Name x px) X.env) = eval (.Name x px) X.env := by rfl) : JD X g ρ (.Attribute (.Name x px) f fpos) d :=
  j_of (pe_fld (pe_var hN hv hd hcd) hb) fun B σ M H E Q q => by
    obtain ⟨o, e1, dx, ws, rfl, h0, hM, hH, il⟩ := E.ok i _ h
    obtain ⟨v, e2, iv⟩ := il.get hl
    exact ⟨.ref xa, e1, xa, C, dx, ws, v, rfl, hH, c, n, e2, q.here E.at_ rfl iv⟩

theorem idx_le {s : Str} : ∀ {ss : List Str} {m : Nat}, ss[m]? = some s → ss.idxOf s ≤ m
  | [], _, h => by simp at h
  | a :: t, m, h => by
    by_cases q : a = s
    · subst q
      rw [List.idxOf_cons_self]
      exact Nat.zero_le _
    · cases m with
      | zero => simp at h; exact absurd h q
      | succ m =>
        have ih := idx_le (ss := t) (m := m) (by simpa using h)
        rw [List.idxOf_cons]
        have e : (a == s) = false := by rw [beq_eq_false_iff_ne]; exact q
        rw [e]
        exact Nat.succ_le_succ ih
/-- x.index(s): where a text first stands in a list of texts -/
theorem jd_index (ho : JD X g ρ o (.lst (ss.map D.str))) (he : JD X g ρ e (.str s)) (hm : s ∈ ss) (hbase : attributeBase o "index" X.env (eval o X.env) = eval o X.env := by rfl)
    (hfew : ((backTo cpos (starEach [e] X.env)).all (fun x => !x.1) && (backToKw cpos (keywordEach [] X.env)).all (fun x => x.1.isSome)
      && decide (([e] : List Expr).length + ([] : List Keyword).length + (if ([] : List Keyword).isEmpty then 0 else 1) < 30)) = true := by rfl)
    (hline : (apos.endLine == cpos.line) = true := by rfl) (hs : starEach [e] X.env = (false, eval e X.env) :: starEach [] X.env := by rfl) (hplain : (backTo cpos (starEach [] X.env)).any (·.1) = false := by rfl) :
    JD X g ρ (.Call (.Attribute o "index" apos) [e] [] cpos) (.int (ss.idxOf s : Nat)) :=
  j_of (pe_bm PySem.F.plainAttrs_list PySem.F.slot_list_index PySem.F.type_list_index mt_index pe_W (pa_cons pe_W pa_nil hs) hbase hfew hline hs hplain) fun B σ M H E Q q => ho.at_ E fun d v M1 H1 p E1 s1 i1 => by
    subst p
    cases i1 with
    | @lst a _ vs e1 il =>
      obtain rfl := il.strs
      refine ⟨.inl ⟨rfl, _, SqL.of (E1.at_.sub _ _ e1)⟩, he.at_ E1 fun d v M2 H2 p E2 s2 i2 => ?_⟩
      subst p
      cases i2
      have hl : ss.idxOf s < ss.length := List.idxOf_lt_length_of_mem hm
      refine ⟨a, ss.map V.str, .str s, ss.idxOf s, .str s, rfl, rfl, SqL.of (E2.at_.sub _ _ (s2.mm _ _ e1)), rfl, flat_strs, ?_, ?_, ?_, (Kn.to q (s1.trans s2)).here E2.at_ rfl (.int _)⟩
      · rw [List.getElem?_map, List.getElem?_eq_getElem hl, List.getElem_idxOf hl]
        rfl
      · exact beq_iff_eq.mpr rfl
      · intro m z' hm' hz
        rw [List.getElem?_map] at hz
        cases e : ss[m]? with
        | none => rw [e] at hz; cases hz
        | some z0 =>
          rw [e] at hz
          cases hz
          show (z0 == s) = false
          rw [beq_eq_false_iff_ne]
          rintro rfl
          have := idx_le e
          omega
end
end FD
end
section
set_option maxHeartbeats 2000000
/-! defs by the judgements -/
namespace FD
open PySem PySem.Spec PyProof.Rows L2
section
variable {P : Program} {w : World} {K : PySem.W.Frag} {mg : Str → Option Value} {base : Heap} {ι : Type} {pre : ι → List D} {post : ι → D → Prop} {x qual : Str} {st : Stmt} {f : Addr} {fd : FuncData} {N ps : List Str} {j k : Nat} {C : Addr} {m : Str}
/-- what a def's body is to reach -/
def poOf (post : D → Prop) : Po := ⟨post, fun _ => post .non, fun _ => False, fun _ => False⟩
def poIni (x C : Addr) (post : D → Prop) : Po := ⟨fun _ => False, fun ρ' => ∃ fs, ρ'[0]? = some (.slf x C fs) ∧ post (.ins C fs), fun _ => False, fun _ => False⟩
/-- where a def's body runs -/
abbrev Xc (P : Program) (w : World) (K : PySem.W.Frag) (mg : Str → Option Value) (base : Heap) (N : List Str) (qual : Str) (st : Stmt) (f : Addr) (cdv : Value) (A : Around) (outer : List PySem.Env) (s : Shared) (H : Hp) (E : XK) : Cx := (cxOf CX0 P w K mg base N qual (defScope st) f cdv A outer s H E).nox
/-- the body at every such place -/
def Bod (P : Program) (w : World) (K : PySem.W.Frag) (mg : Str → Option Value) (base : Heap) (N : List Str) (qual : Str) (st : Stmt) (k : Nat) (F : Cx → Prop) : Prop :=
  ∀ (f : Addr) (cdv : Value) (A : Around) (outer : List PySem.Env) (s : Shared) (H : Hp) (E : XK), Room k (Xc P w K mg base N qual st f cdv A outer s H E).A → F (Xc P w K mg base N qual st f cdv A outer s H E)
theorem noown_start {ds : List D} {n : Nat} : ∀ (i : Nat) (s : Slot), (ds.map Slot.ro ++ List.replicate n .any)[i]? = some s → s.owned = false := fun i s e => by
  rcases List.mem_append.mp (List.mem_of_getElem? e) with q | q
  · obtain ⟨d, _, rfl⟩ := List.mem_map.mp q; rfl
  · rw [(List.mem_replicate.mp q).2]; rfl
theorem ev_start {g : Bg} {M H : Hp} (h : At g M H) {ds : List D} {vs : List V} (l : IsL M ds vs) (n : Nat) : Ev ⟨M, H⟩ g M H (vs.map some ++ List.replicate n none) (ds.map Slot.ro ++ List.replicate n .any) := by
  have hl := l.length
  refine ⟨h, Stp.refl h, fun i s e => ?_, fun i j si sj p e1 e2 o1 o2 s1 s2 => ?_, by simp [hl]⟩
  · by_cases hi : i < ds.length
    · rw [List.getElem?_append_left (by simpa using hi), List.getElem?_map] at e
      cases q : ds[i]? with
      | none => rw [q] at e; cases e
      | some d =>
        rw [q] at e
        cases e
        obtain ⟨v, e1, e2⟩ := l.get q
        exact ⟨some v, by rw [List.getElem?_append_left (by simpa [hl] using hi), List.getElem?_map, e1]; rfl, v, rfl, e2⟩
    · rw [List.getElem?_append_right (by simpa using hi)] at e
      have : s = .any := (List.mem_replicate.mp (List.mem_of_getElem? e)).2
      subst this
      have hi2 : i - ds.length < n := by
        rw [List.length_map] at e
        rcases Nat.lt_or_ge (i - ds.length) n with h1 | h1
        · exact h1
        · rw [List.getElem?_eq_none (by simpa using h1)] at e; cases e
      exact ⟨none, by rw [List.getElem?_append_right (by simp [hl]; omega)]; simp [hl, hi2], trivial⟩
  · rw [noown_start i si e1] at o1
    cases o1
/-- THE RULE for a def -/
theorem fn_pro (F : Fun K x qual st f fd) (S : FnScope N ps (defScope st)) (hl : ∀ i, (pre i).length = ps.length)
    (body : ∀ i : ι, Bod P w K mg base N qual st k fun X => SS X none (poOf (post i)) ((pre i).map Slot.ro ++ List.replicate (N.length - ps.length) .any) (defBody st)) : FnOk P w K mg base CX0 (k + 1) f fd ps (Pro pre post) :=
  F.ok S (fun vs H Q E ⟨i, M, _, l, _⟩ => by rw [l.length]; exact hl i) fun cdv A outer s H vs Q E hr ⟨i, M, sm, l, q⟩ => by
    refine ⟨_, pss_W, ?_⟩
    have hv : vs.length = ps.length := by rw [l.length]; exact hl i
    have E0 := ev_start (At.pure sm) l (N.length - ps.length)
    refine body i f cdv A outer s H E hr ⟨M, H⟩ _ M H _ (by unfold L2.start; rw [hv]; exact E0) ⟨fun d v M' H' p s iv => q d v M' H' p s iv, fun _ _ M' H' p _ E' => q .non .non M' H' p E'.st .non, fun _ _ _ _ z => False.elim z, fun _ _ _ _ z => False.elim z⟩
theorem fn_dro (F : Fun K x qual st f fd) (S : FnScope N ps (defScope st)) (hl : ∀ i, (pre i).length + 1 = ps.length)
    (body : ∀ (i : ι) (b : Addr) (ns : Addr × List Int), Bod P w K mg base N qual st k fun X => SS X (some (b, ns)) (poOf (post i)) (Slot.ro (.adr b) :: ((pre i).map Slot.ro ++ List.replicate (N.length - ps.length) .any)) (defBody st)) : FnOk P w K mg base CX0 (k + 1) f fd ps (Dro pre post) :=
  F.ok S (fun vs H Q E ⟨i, M, b, ns, _, l, _⟩ => by rw [l.length]; exact hl i) fun cdv A outer s H vs Q E hr ⟨i, M, b, ns, A0, l, q⟩ => by
    refine ⟨_, pss_W, ?_⟩
    have hv : vs.length = ps.length := by rw [l.length]; exact hl i
    have E0 := ev_start A0 l (N.length - ps.length)
    refine body i b ns f cdv A outer s H E hr ⟨M, H⟩ _ M H _ (by unfold L2.start; rw [hv]; exact E0) ⟨fun d v M' H' p s iv => q d v M' H' p s iv, fun _ _ M' H' p _ E' => q .non .non M' H' p E'.st .non, fun _ _ _ _ z => False.elim z, fun _ _ _ _ z => False.elim z⟩
/-- .. for an __init__: it must leave self with the attributes fs, for which post holds -/
theorem fn_ini (F : Fun K x qual st f fd) (S : FnScope N ps (defScope st)) (hl : ∀ i, (pre i).length + 1 = ps.length)
    (body : ∀ (i : ι) (xa : Addr), Bod P w K mg base N qual st k fun X => SS X none (poIni xa C (post i)) (Slot.slf xa C [] :: ((pre i).map Slot.ro ++ List.replicate (N.length - ps.length) .any)) (defBody st)) :
    FnOk P w K mg base CX0 (k + 1) f fd ps (Ini C pre post) :=
  F.ok S (fun vs H Q E ⟨i, M, H0, x, dx, ws, e, _, _, _, _, _, l, _⟩ => by rw [e, List.length_cons, l.length]; exact hl i) fun cdv A outer s H vs Q E hr ⟨i, M, H0, x, dx, ws, ev, eH, hx, hdx, hne, sm, l, q⟩ => by
    refine ⟨_, pss_W, ?_⟩
    subst ev eH
    have hv : (V.ref x :: ws).length = ps.length := by rw [List.length_cons, l.length]; exact hl i
    have A0 : At none M H0 := At.pure sm
    have t1 : Stp none M H0 M (upd H0 dx (.own x)) := Stp.tmp A0 hdx _
    have hx1 : upd H0 dx (.own x) x = none := by rw [upd_ne (Ne.symm hne)]; exact hx
    have t2 := t1.trans (Stp.tmp t1.at_ hx1 (.ins C dx []))
    have E0 := ev_start A0 l (N.length - ps.length)
    have E1 : Ev ⟨M, H0⟩ none M (upd (upd H0 dx (.own x)) x (.ins C dx [])) (some (V.ref x) :: (ws.map some ++ List.replicate (N.length - ps.length) none)) (Slot.slf x C [] :: ((pre i).map Slot.ro ++ List.replicate (N.length - ps.length) .any)) := by
      have Es := E0.step t2
      refine ⟨A0, t2, fun j s e => ?_, fun j k sj sk p e1 e2 o1 o2 s1 s2 => ?_, by have := Es.len; simp at this ⊢; omega⟩
      · cases j with
        | zero =>
          cases e
          exact ⟨_, rfl, dx, [], rfl, hx, A0.freeM hx, upd_same, .nil⟩
        | succ j => exact Es.ok j s e
      · cases j with
        | zero =>
          cases k with
          | zero => rfl
          | succ k => rw [noown_start k sk e2] at o2; cases o2
        | succ j => rw [noown_start j sj e1] at o1; cases o1
    refine body i x f cdv A outer s _ E hr ⟨M, H0⟩ _ M _ _ (by
      unfold L2.start
      rw [hv]
      exact E1) ⟨fun d v M' H' p s iv => False.elim p, fun ρ' σ' M' H' ⟨fs, h0, hp⟩ _ E' => ?_, fun _ _ _ _ z => False.elim z, fun _ _ _ _ z => False.elim z⟩
    obtain ⟨o, e1, dx', ws', rfl, g0, gM, gH, il⟩ := E'.ok 0 _ h0
    have st := E'.st.frz hx gM gH (notbag E'.a0 hx)
    exact q (.ins C fs) _ _ hp st (.ins upd_same (il.mono fun b u e => by rw [upd_ne (ne_of_none e gM)]; exact e))
theorem fnok_r {ps : List Str} {sp : Sp} (F : FnOk P w K mg base CX0 k f fd ps sp) (b : Binds K fd ps []) : FnR P w K mg base CX0 k f sp := (F.raw b (dvs := []) .nil).imp fun vs H Q E h => by rw [List.append_nil]; exact h
theorem fd_of {sp : Sp} (F : FnOk P w K mg base CX0 k f fd ps sp) (G : Fun K x qual st f fd) (b : Binds K fd ps []) (hm : mg x = some (.ref f)) : Fd P w K mg base x k sp := ⟨f, hm, G.kp, fnok_r F b⟩
theorem md_of {sp : Sp} (F : FnOk P w K mg base CX0 k f fd ps sp) (b : Binds K fd ps []) (h : Meth K C m f) : Md P w K mg base C m k sp := ⟨f, h, fnok_r F b⟩
theorem Fd.mono {sp : Sp} (F : Fd P w K mg base x j sp) (h : j ≤ k) : Fd P w K mg base x k sp := by
  obtain ⟨f, h1, h2, h3⟩ := F.ex
  exact ⟨f, h1, h2, h3.mono h⟩
end
end FD
end
section
set_option maxHeartbeats 2000000
/-! words for the walks -/
namespace FD
open PySem PySem.Spec PyProof.Rows L2
/-- a def of the module -/
structure Dn (K : PySem.W.Frag) (mg : Str → Option Value) (x : Str) (st : Stmt) : Prop where
  ex : ∃ f fd, Fun K x x st f fd ∧ mg x = some (.ref f)
theorem Dn.fd {P : Program} {w : World} {K : PySem.W.Frag} {mg : Str → Option Value} {base : Heap} {x : Str} {st : Stmt} {ps : List Str} {k : Nat} {sp : Sp} (d : Dn K mg x st) (F : ∀ f fd, Fun K x x st f fd → FnOk P w K mg base CX0 k f fd ps sp) (b : ∀ f fd, Fun K x x st f fd → Binds K fd ps []) : Fd P w K mg base x k sp := by
  obtain ⟨f, fd, G, hm⟩ := d.ex
  exact fd_of (F f fd G) G (b f fd G) hm
/-- a method of the class at C -/
structure Dm (K : PySem.W.Frag) (C : Addr) (m qual : Str) (st : Stmt) : Prop where
  ex : ∃ f fd, Fun K m qual st f fd ∧ Meth K C m f
theorem Dm.md {P : Program} {w : World} {K : PySem.W.Frag} {mg : Str → Option Value} {base : Heap} {m qual : Str} {C : Addr} {st : Stmt} {ps : List Str} {k : Nat} {sp : Sp} (d : Dm K C m qual st) (F : ∀ f fd, Fun K m qual st f fd → FnOk P w K mg base CX0 k f fd ps sp) (b : ∀ f fd, Fun K m qual st f fd → Binds K fd ps []) : Md P w K mg base C m k sp := by
  obtain ⟨f, fd, G, hm⟩ := d.ex
  exact md_of (F f fd G) (b f fd G) hm
def D.isStr : D → Bool | .str _ => true | _ => false
def D.isTup : D → Bool | .tup _ => true | _ => false
def D.isLst : D → Bool | .lst _ => true | _ => false
def D.isDic : D → Bool | .dic _ => true | _ => false
def D.isBl : D → Bool | .bl _ => true | _ => false
def D.isInt : D → Bool | .bl _ => true | .int _ => true | _ => false
def D.isIns (C : Addr) : D → Bool | .ins C' _ => decide (C' = C) | _ => false
section
variable {K : PySem.W.Frag} {mg : Str → Option Value} (T : Mo K mg) {d : D} {t : Tg}
/-- it has a type -/
def Tp (d : D) : Prop := ∃ t, T.tag d = some t
theorem tg_ins {C : Addr} {fs : List (Str × D)} (h : T.tag (.ins C fs) = some t) : (C = T.cR ∧ t = .row) ∨ (C = T.cO ∧ t = .ord) ∨ (C = T.cB ∧ t = .book) := by
  replace h : (if C = T.cR then some Tg.row else if C = T.cO then some Tg.ord else if C = T.cB then some Tg.book else none) = some t := h
  by_cases h1 : C = T.cR
  · rw [if_pos h1] at h; cases h; exact .inl ⟨h1, rfl⟩
  · rw [if_neg h1] at h
    by_cases h2 : C = T.cO
    · rw [if_pos h2] at h; cases h; exact .inr (.inl ⟨h2, rfl⟩)
    · rw [if_neg h2] at h
      by_cases h3 : C = T.cB
      · rw [if_pos h3] at h; cases h; exact .inr (.inr ⟨h3, rfl⟩)
      · rw [if_neg h3] at h; cases h
theorem tg_all (h : T.tag d = some t) : t.is .str = d.isStr ∧ t.is .tup = d.isTup ∧ t.is .lst = d.isLst ∧ t.is .dic = d.isDic ∧ t.is .bl = d.isBl ∧ t.is .int = d.isInt ∧ t.is .row = d.isIns T.cR ∧ t.is .ord = d.isIns T.cO := by
  cases d with
  | ins C fs =>
    rcases tg_ins T h with ⟨rfl, rfl⟩ | ⟨rfl, rfl⟩ | ⟨rfl, rfl⟩
    · simp [Tg.is, D.isStr, D.isTup, D.isLst, D.isDic, D.isBl, D.isInt, D.isIns, T.ne1]
    · simp [Tg.is, D.isStr, D.isTup, D.isLst, D.isDic, D.isBl, D.isInt, D.isIns, T.ne1.symm]
    · simp [Tg.is, D.isStr, D.isTup, D.isLst, D.isDic, D.isBl, D.isInt, D.isIns, T.ne2.symm, T.ne3.symm]
  | adr a => cases h
  | non => cases h; exact ⟨rfl, rfl, rfl, rfl, rfl, rfl, rfl, rfl⟩
  | bl => cases h; exact ⟨rfl, rfl, rfl, rfl, rfl, rfl, rfl, rfl⟩
  | int => cases h; exact ⟨rfl, rfl, rfl, rfl, rfl, rfl, rfl, rfl⟩
  | str => cases h; exact ⟨rfl, rfl, rfl, rfl, rfl, rfl, rfl, rfl⟩
  | tup => cases h; exact ⟨rfl, rfl, rfl, rfl, rfl, rfl, rfl, rfl⟩
  | lst => cases h; exact ⟨rfl, rfl, rfl, rfl, rfl, rfl, rfl, rfl⟩
  | dic => cases h; exact ⟨rfl, rfl, rfl, rfl, rfl, rfl, rfl, rfl⟩
end
section
variable {X : Cx} {g : Bg} {ρ : List Slot} {a c e : Expr} {d : D} {p p2 p3 p4 pos pos' px : Pos} (T : Mo X.K X.mg)
theorem i_str (h : JD X g ρ a d) (ht : Tp T d) (hg : Gl X "isinstance" := by rfl) (hg2 : Gl X "str" := by rfl) (he : starEach [a, .Name "str" p2] X.env = (false, eval a X.env) :: starEach [.Name "str" p2] X.env := by rfl) (he2 : starEach [.Name "str" p2] X.env = (false, eval (.Name "str" p2) X.env) :: starEach [] X.env := by rfl) (hpl : (backTo pos (starEach [.Name "str" p2] X.env)).any (·.1) = false := by rfl) : JD X g ρ (.Call (.Name "isinstance" p) [a, .Name "str" p2] [] pos) (.bl d.isStr) := by
  obtain ⟨t, ht⟩ := ht
  rw [← (tg_all T ht).1]
  exact isi_str T h ht hg hg2 he he2 hpl
theorem i_tuple (h : JD X g ρ a d) (ht : Tp T d) (hg : Gl X "isinstance" := by rfl) (hg2 : Gl X "tuple" := by rfl) (he : starEach [a, .Name "tuple" p2] X.env = (false, eval a X.env) :: starEach [.Name "tuple" p2] X.env := by rfl) (he2 : starEach [.Name "tuple" p2] X.env = (false, eval (.Name "tuple" p2) X.env) :: starEach [] X.env := by rfl) (hpl : (backTo pos (starEach [.Name "tuple" p2] X.env)).any (·.1) = false := by rfl) : JD X g ρ (.Call (.Name "isinstance" p) [a, .Name "tuple" p2] [] pos) (.bl d.isTup) := by
  obtain ⟨t, ht⟩ := ht
  rw [← (tg_all T ht).2.1]
  exact isi_tuple T h ht hg hg2 he he2 hpl
theorem i_list (h : JD X g ρ a d) (ht : Tp T d) (hg : Gl X "isinstance" := by rfl) (hg2 : Gl X "list" := by rfl) (he : starEach [a, .Name "list" p2] X.env = (false, eval a X.env) :: starEach [.Name "list" p2] X.env := by rfl) (he2 : starEach [.Name "list" p2] X.env = (false, eval (.Name "list" p2) X.env) :: starEach [] X.env := by rfl) (hpl : (backTo pos (starEach [.Name "list" p2] X.env)).any (·.1) = false := by rfl) : JD X g ρ (.Call (.Name "isinstance" p) [a, .Name "list" p2] [] pos) (.bl d.isLst) := by
  obtain ⟨t, ht⟩ := ht
  rw [← (tg_all T ht).2.2.1]
  exact isi_list T h ht hg hg2 he he2 hpl
theorem i_dict (h : JD X g ρ a d) (ht : Tp T d) (hg : Gl X "isinstance" := by rfl) (hg2 : Gl X "dict" := by rfl) (he : starEach [a, .Name "dict" p2] X.env = (false, eval a X.env) :: starEach [.Name "dict" p2] X.env := by rfl) (he2 : starEach [.Name "dict" p2] X.env = (false, eval (.Name "dict" p2) X.env) :: starEach [] X.env := by rfl) (hpl : (backTo pos (starEach [.Name "dict" p2] X.env)).any (·.1) = false := by rfl) : JD X g ρ (.Call (.Name "isinstance" p) [a, .Name "dict" p2] [] pos) (.bl d.isDic) := by
  obtain ⟨t, ht⟩ := ht
  rw [← (tg_all T ht).2.2.2.1]
  exact isi_dict T h ht hg hg2 he he2 hpl
theorem i_bool (h : JD X g ρ a d) (ht : Tp T d) (hg : Gl X "isinstance" := by rfl) (hg2 : Gl X "bool" := by rfl) (he : starEach [a, .Name "bool" p2] X.env = (false, eval a X.env) :: starEach [.Name "bool" p2] X.env := by rfl) (he2 : starEach [.Name "bool" p2] X.env = (false, eval (.Name "bool" p2) X.env) :: starEach [] X.env := by rfl) (hpl : (backTo pos (starEach [.Name "bool" p2] X.env)).any (·.1) = false := by rfl) : JD X g ρ (.Call (.Name "isinstance" p) [a, .Name "bool" p2] [] pos) (.bl d.isBl) := by
  obtain ⟨t, ht⟩ := ht
  rw [← (tg_all T ht).2.2.2.2.1]
  exact isi_bool T h ht hg hg2 he he2 hpl
theorem i_int (h : JD X g ρ a d) (ht : Tp T d) (hg : Gl X "isinstance" := by rfl) (hg2 : Gl X "int" := by rfl) (he : starEach [a, .Name "int" p2] X.env = (false, eval a X.env) :: starEach [.Name "int" p2] X.env := by rfl) (he2 : starEach [.Name "int" p2] X.env = (false, eval (.Name "int" p2) X.env) :: starEach [] X.env := by rfl) (hpl : (backTo pos (starEach [.Name "int" p2] X.env)).any (·.1) = false := by rfl) : JD X g ρ (.Call (.Name "isinstance" p) [a, .Name "int" p2] [] pos) (.bl d.isInt) := by
  obtain ⟨t, ht⟩ := ht
  rw [← (tg_all T ht).2.2.2.2.2.1]
  exact isi_int T h ht hg hg2 he he2 hpl
theorem i_Row (h : JD X g ρ a d) (ht : Tp T d) (hg : Gl X "isinstance" := by rfl) (hg2 : Gl X "Row" := by rfl) (he : starEach [a, .Name "Row" p2] X.env = (false, eval a X.env) :: starEach [.Name "Row" p2] X.env := by rfl) (he2 : starEach [.Name "Row" p2] X.env = (false, eval (.Name "Row" p2) X.env) :: starEach [] X.env := by rfl) (hpl : (backTo pos (starEach [.Name "Row" p2] X.env)).any (·.1) = false := by rfl) : JD X g ρ (.Call (.Name "isinstance" p) [a, .Name "Row" p2] [] pos) (.bl (d.isIns T.cR)) := by
  obtain ⟨t, ht⟩ := ht
  rw [← (tg_all T ht).2.2.2.2.2.2.1]
  exact isi_Row T h ht hg hg2 he he2 hpl
theorem i_Order (h : JD X g ρ a d) (ht : Tp T d) (hg : Gl X "isinstance" := by rfl) (hg2 : Gl X "Order" := by rfl) (he : starEach [a, .Name "Order" p2] X.env = (false, eval a X.env) :: starEach [.Name "Order" p2] X.env := by rfl) (he2 : starEach [.Name "Order" p2] X.env = (false, eval (.Name "Order" p2) X.env) :: starEach [] X.env := by rfl) (hpl : (backTo pos (starEach [.Name "Order" p2] X.env)).any (·.1) = false := by rfl) : JD X g ρ (.Call (.Name "isinstance" p) [a, .Name "Order" p2] [] pos) (.bl (d.isIns T.cO)) := by
  obtain ⟨t, ht⟩ := ht
  rw [← (tg_all T ht).2.2.2.2.2.2.2]
  exact isi_Order T h ht hg hg2 he he2 hpl
theorem i_seq {kk : Nat} (h : JD X g ρ a d) (ht : Tp T d) (hg : Gl X "isinstance" := by rfl) (hgl : Gl X "list" := by rfl) (hgt : Gl X "tuple" := by rfl)
    (he : starEach [a, .Tuple [.Name "list" p3, .Name "tuple" p4] kk p2] X.env = (false, eval a X.env) :: starEach [.Tuple [.Name "list" p3, .Name "tuple" p4] kk p2] X.env := by rfl) (he2 : starEach [.Tuple [.Name "list" p3, .Name "tuple" p4] kk p2] X.env = (false, eval (.Tuple [.Name "list" p3, .Name "tuple" p4] kk p2) X.env) :: starEach [] X.env := by rfl) (hpl : (backTo pos (starEach [.Tuple [.Name "list" p3, .Name "tuple" p4] kk p2] X.env)).any (·.1) = false := by rfl)
    (h1 : starEach [.Name "list" p3, .Name "tuple" p4] X.env = (false, eval (.Name "list" p3) X.env) :: starEach [.Name "tuple" p4] X.env := by rfl) (h2 : starEach [.Name "tuple" p4] X.env = (false, eval (.Name "tuple" p4) X.env) :: starEach [] X.env := by rfl) :
    JD X g ρ (.Call (.Name "isinstance" p) [a, .Tuple [.Name "list" p3, .Name "tuple" p4] kk p2] [] pos) (.bl (d.isLst || d.isTup)) := by
  obtain ⟨t, ht⟩ := ht
  rw [← (tg_all T ht).2.2.1, ← (tg_all T ht).2.1]
  exact jd_isiT T h (nm_list T hgl) (nm_tuple T hgt) (.ty _) (.ty _) ht (by decide) (by decide) hg he he2 hpl h1 h2
omit T
variable {po : Po} {u : Bool} {body orelse rest : List Stmt} {P : D → Prop}
theorem ss_ifD (hc : JTD X g ρ c u) (k1 : u = true → SS X g (po.to X g rest) ρ body) (k2 : u = false → SS X g (po.to X g rest) ρ orelse) : SS X g po ρ (.If c body orelse pos :: rest) := ss_if hc (fun h => k1 h.symm) fun h => k2 h.symm
theorem ss_ifD0 (hc : JTD X g ρ c u) (k1 : u = true → SS X g (po.to X g rest) ρ body) (k2 : u = false → SS X g po ρ rest) : SS X g po ρ (.If c body [] pos :: rest) := ss_if0 hc (fun h => k1 h.symm) fun h => k2 h.symm
/-- return of a known thing -/
theorem ss_retD {d : D} (he : JD X g ρ e d) (k : po.R d) : SS X g po ρ (.Return (some e) pos :: rest) := ss_ret he (by rintro _ rfl; exact k)
theorem ss_setD {d : D} (i : Nat) {x : Str} (hN : X.N.Nodup) (he : JD X g ρ e d) (k : SS X g po (ρ.set i (.ro d)) rest) (hi : X.N[i]? = some x := by rfl) (hx : Loc X.env.scope x := by first | exact Or.inl rfl | exact Or.inr rfl)
    (hs : swapsWith e (some (.Name x px)) pos.line X.env = pure false := by rfl) (hf : X.fn x = true ∨ X.env.scope.names.lookup x = some .local := by first | exact .inl rfl | exact .inr rfl | assumption) : SS X g po ρ (.Assign [.Name x px] e pos :: rest) :=
  ss_set i hN he (by rintro _ rfl; exact k) hi hx hs hf
/-- x = [..] of known things, as a thing for good -/
theorem j_eq {d d2 : D} (h : JD X g ρ e d) (e1 : d = d2) : JD X g ρ e d2 := e1 ▸ h
theorem jt_eq {b b2 : Bool} (h : JTD X g ρ c b) (e1 : b = b2) : JTD X g ρ c b2 := e1 ▸ h
end
theorem jas1 {X : Cx} {g : Bg} {ρ : List Slot} {e : Expr} {d : D} {p : Pos} {l : List D} (h : JD X g ρ e d) (hq : Sq d l := by first | exact Or.inl rfl | exact Or.inr rfl) (hs : starEach (.Starred e p :: []) X.env = (true, eval e X.env) :: starEach [] X.env := by rfl) : JAD X g ρ [.Starred e p] l := by
  have := jas h jan hq hs
  rw [List.append_nil] at this
  exact this
/-! guards -/
theorem g1 {a b : Bool} (h : (!a || !b) = true) : (a && b) = false := by cases a <;> cases b <;> first | rfl | cases h
theorem g2 {a b : Bool} (h : (!a || !b) = false) : a = true ∧ b = true := by cases a <;> cases b <;> first | exact ⟨rfl, rfl⟩ | cases h
theorem g3 {a : Bool} (h : (!a) = false) : a = true := by cases a <;> first | rfl | cases h
theorem g4 {a : Bool} (h : (!a) = true) : a = false := by cases a <;> first | rfl | cases h
theorem g5 {a : Bool} (h : (!true || !a) = true) : a = false := by cases a <;> first | rfl | cases h
end FD
end
section
set_option maxHeartbeats 2000000
/-! defs with defaults that are not used; an __init__ with a star -/
namespace FD
open PySem PySem.Spec PyProof.Rows L2
/-- a def as it stands behind the top, two defaults at most -/
structure Fz (K : PySem.W.Frag) (x qual : Str) (st : Stmt) (f : Addr) (fd : FuncData) : Prop where
  ex : ∃ (oc : Value) (od : Option Addr) (dV kV doc pm : Value) (an : Option Addr) (cdv ct : Value) (osl : Array (Option Value)),
    fd = PySem.W.fnOf x qual (defArgs st) (defBody st) (defScope st) dV kV doc pm an cdv ct ∧ K.lookup f = some ⟨oc, od, .func fd, osl⟩ ∧ PySem.W.codeIn K cdv qual = true ∧ ∃ (T : Addr) (o : Obj) (i1 i2 : Value) (n : Nat), dV = .ref T ∧ K.lookup T = some o ∧ o.data = .seq #[i1, i2] n
  kp : PySem.W.keepIn K (.ref f) = true
section
variable {P : Program} {w : World} {K : PySem.W.Frag} {mg : Str → Option Value} {base : Heap} {ι : Type} {pre pre1 rst : ι → List D} {post : ι → D → Prop} {x qual : Str} {st : Stmt} {f : Addr} {fd : FuncData} {N ps : List Str} {j k : Nat} {C : Addr} {m : Str}
theorem Fz.ok {sp : Sp} (F : Fz K x qual st f fd) (S : FnScope N ps (defScope st)) (len : ∀ vs H Q E, sp vs H Q E → vs.length = ps.length)
    (hbody : ∀ (cdv : Value) (A : Around) (outer : List PySem.Env) (s : Shared) (H : Hp) (vs : List V) (Q : VK) (E : XK), Room k (A.deeper (envOfC qual (defScope st) s.heap.objs.size f cdv)) → sp vs H Q E →
      ∃ t, PSs (cxOf CX0 P w K mg base N qual (defScope st) f cdv A outer s H E).nox (defBody st) t ∧ t { nx := fun _ H' => Q .non H', rt := Q } (L2.start N vs) H) : FnOk P w K mg base CX0 (k + 1) f fd ps sp := by
  obtain ⟨oc, od, dV, kV, doc, pm, an, cdv, ct, osl, rfl, lk, hcd, _⟩ := F.ex
  refine fn_of lk hcd S len fun A outer s H vs Q E hr hsp => ?_
  obtain ⟨t, h, q⟩ := hbody cdv A outer s H vs Q E hr hsp
  exact ⟨t, h.nox, q⟩
theorem Fz.binds (F : Fz K x qual st f fd) (h : ∀ (T : Addr) (kV doc pm : Value) (an : Option Addr) (cdv ct : Value) (us : List Value) (i1 i2 : Value), us.length = ps.length →
      ∃ k, bindArgs (PySem.W.fnOf x qual (defArgs st) (defBody st) (defScope st) (.ref T) kV doc pm an cdv ct) ⟨us, []⟩ = seqItems? (.ref T) >>= k ∧ k (some #[i1, i2]) = pure (ps.zip us)) : Binds K fd ps [] := by
  obtain ⟨oc, od, dV, kV, doc, pm, an, cdv, ct, osl, rfl, lk, hcd, T, o, i1, i2, n, rfl, lT, oT⟩ := F.ex
  intro s us X hlen
  rw [List.append_nil] at hlen ⊢
  obtain ⟨k, e1, e2⟩ := h T kV doc pm an cdv ct us i1 i2 hlen
  refine BindsTo.of_looks fun M => ?_
  rw [e1]
  exact looks_items X lT oT (.of_pure e2)
/-- the start of an __init__ -/
theorem ini_start {M H0 : Hp} {xa dx : Addr} (A0 : At none M H0) (hx : H0 xa = none) (hdx : H0 dx = none) (hne : dx ≠ xa) {ds : List D} {vs : List V} (l : IsL M ds vs) (n : Nat) :
    Ev ⟨M, H0⟩ none M (upd (upd H0 dx (.own xa)) xa (.ins C dx [])) (some (V.ref xa) :: (vs.map some ++ List.replicate n none)) (Slot.slf xa C [] :: (ds.map Slot.ro ++ List.replicate n .any)) := by
  have t1 : Stp none M H0 M (upd H0 dx (.own xa)) := Stp.tmp A0 hdx _
  have hx1 : upd H0 dx (.own xa) xa = none := by rw [upd_ne (Ne.symm hne)]; exact hx
  have t2 := t1.trans (Stp.tmp t1.at_ hx1 (.ins C dx []))
  have Es := (ev_start A0 l n).step t2
  refine ⟨A0, t2, fun j s e => ?_, fun j k sj sk p e1 e2 o1 o2 s1 s2 => ?_, by have := Es.len; simp at this ⊢; omega⟩
  · cases j with
    | zero =>
      cases e
      exact ⟨_, rfl, dx, [], rfl, hx, A0.freeM hx, upd_same, .nil⟩
    | succ j => exact Es.ok j s e
  · cases j with
    | zero =>
      cases k with
      | zero => rfl
      | succ k => rw [noown_start k sk e2] at o2; cases o2
    | succ j => rw [noown_start j sj e1] at o1; cases o1
theorem ini_ends {M H0 : Hp} {xa : Addr} {Q : VK} {post : D → Prop} {M1 : Hp} (hx : H0 xa = none) (q : ∀ d M' H', post d → Stp none M H0 M' H' → Is M' d (.ref xa) → Q .non H') : (poIni xa C post).Of none ⟨M, H0⟩ M1 { nx := fun _ H' => Q .non H', rt := Q } :=
  ⟨fun d v M' H' p s iv => False.elim p, fun ρ' σ' M' H' ⟨fs, h0, hp⟩ _ E' => by
    obtain ⟨o, e1, dx', ws', rfl, g0, gM, gH, il⟩ := E'.ok 0 _ h0
    have st := E'.st.frz hx gM gH (notbag E'.a0 hx)
    exact q (.ins C fs) _ _ hp st (.ins upd_same (il.mono fun b u e => by rw [upd_ne (ne_of_none e gM)]; exact e)), fun _ _ _ _ z => False.elim z, fun _ _ _ _ z => False.elim z⟩
theorem fn_iniZ (F : Fz K x qual st f fd) (S : FnScope N ps (defScope st)) (hl : ∀ i, (pre i).length + 1 = ps.length)
    (body : ∀ (i : ι) (xa : Addr), Bod P w K mg base N qual st k fun X => SS X none (poIni xa C (post i)) (Slot.slf xa C [] :: ((pre i).map Slot.ro ++ List.replicate (N.length - ps.length) .any)) (defBody st)) :
    FnOk P w K mg base CX0 (k + 1) f fd ps (Ini C pre post) :=
  F.ok S (fun vs H Q E ⟨i, M, H0, x, dx, ws, e, _, _, _, _, _, l, _⟩ => by rw [e, List.length_cons, l.length]; exact hl i) fun cdv A outer s H vs Q E hr ⟨i, M, H0, x, dx, ws, ev, eH, hx, hdx, hne, sm, l, q⟩ => by
    refine ⟨_, pss_W, ?_⟩
    subst ev eH
    have hv : (V.ref x :: ws).length = ps.length := by rw [List.length_cons, l.length]; exact hl i
    exact body i x f cdv A outer s _ E hr ⟨M, H0⟩ _ M _ _ (by
      unfold L2.start
      rw [hv]
      exact ini_start (At.pure sm) hx hdx hne l _) (ini_ends hx q)
/-- self, .., *star -/
theorem fn_iniS {pv : Str} (F : Fun K x qual st f fd) (S : FnScope N (ps ++ [pv]) (defScope st)) (hl : ∀ i, (pre1 i).length + 1 = ps.length) (hz : ∀ i, (rst i).length ≤ sizeLine)
    (hb : ∀ (kV doc pm : Value) (an : Option Addr) (cdv ct : Value) (us rest : List Value), us.length = ps.length → bindArgs (PySem.W.fnOf x qual (defArgs st) (defBody st) (defScope st) .none kV doc pm an cdv ct) ⟨us ++ rest, []⟩ = (newTuple rest >>= fun t => pure (ps.zip us ++ [(pv, t)])))
    (body : ∀ (i : ι) (xa : Addr), Bod P w K mg base N qual st k fun X => SS X none (poIni xa C (post i)) (Slot.slf xa C [] :: (((pre1 i ++ [D.tup (rst i)])).map Slot.ro ++ List.replicate (N.length - (ps.length + 1)) .any)) (defBody st)) :
    FnR P w K mg base CX0 (k + 1) f (Ini C (fun i => pre1 i ++ rst i) post) := by
  obtain ⟨oc, od, kV, doc, pm, an, cdv, ct, osl, rfl, lk, hcd⟩ := F.ex
  refine (StX.fn_star (CX := CX0) (k := k) (sp := fun vs H1 Q _ => ∃ (i : ι) (M H0 : Hp) (xa dx p : Addr) (ws vr : List V), vs = .ref xa :: ws ++ [.ref p] ∧ H1 = upd (upd (upd H0 dx (.own xa)) xa (.ins C dx [])) p (.tup vr) ∧ H0 xa = none ∧ H0 dx = none ∧ dx ≠ xa ∧ upd (upd H0 dx (.own xa)) xa (.ins C dx []) p = none ∧ Same M H0 ∧ IsL M (pre1 i) ws ∧ IsL M (rst i) vr ∧
      ∀ d M' H', post i d → Stp none M H0 M' H' → Is M' d (.ref xa) → Q .non H') lk hcd S StX.cxUp_none (hb kV doc pm an cdv ct) fun A outer s H1 vs Q E hr ⟨i, M, H0, xa, dx, p, ws, vr, ev, eH, hx, hdx, hne, hp, sm, l1, l2, q⟩ => ?_).imp fun vs H1 Q E ⟨i, M, H0, xa, dx, ws, ev, eH, hx, hdx, hne, sm, l, q⟩ => ?_
  · subst ev eH
    have A0 : At none M H0 := At.pure sm
    have E0 := ini_start (C := C) A0 hx hdx hne l1 (N.length - ps.length)
    have st3 := Stp.new E0.at_ hp (.tup vr)
    have hpM : M p = none := E0.at_.freeM hp
    have l3 : IsL (upd M p (.tup vr)) (pre1 i ++ [D.tup (rst i)]) (ws ++ [.ref p]) := (l1.mono st3.mm).append (.one (.tup upd_same (l2.mono st3.mm)))
    have hv : (V.ref xa :: ws ++ [V.ref p]).length = ps.length + 1 := by rw [List.length_append, List.length_cons, l1.length, hl i]; rfl
    have Es := E0.step st3
    have n1 : (List.map some ws).length = (pre1 i).length := by rw [List.length_map, l1.length]
    have E3 : Ev ⟨M, H0⟩ none (upd M p (.tup vr)) (upd (upd (upd H0 dx (.own xa)) xa (.ins C dx [])) p (.tup vr)) (some (V.ref xa) :: ((ws ++ [V.ref p]).map some ++ List.replicate (N.length - (ps.length + 1)) none)) (Slot.slf xa C [] :: (((pre1 i ++ [D.tup (rst i)])).map Slot.ro ++ List.replicate (N.length - (ps.length + 1)) .any)) := by
      have E4 := ev_start (M := upd M p (.tup vr)) (H := upd (upd (upd H0 dx (.own xa)) xa (.ins C dx [])) p (.tup vr)) st3.at_ l3 (N.length - (ps.length + 1))
      refine ⟨A0, Es.st, fun j s e => ?_, fun j k sj sk p e1 e2 o1 o2 s1 s2 => ?_, by have := E4.len; simp at this ⊢; omega⟩
      · cases j with
        | zero =>
          cases e
          exact ⟨_, rfl, dx, [], rfl, hx, st3.fr xa (by rw [upd_same]; exact fun z => nomatch z) (A0.freeM hx), st3.hh xa _ upd_same (fun _ z => nomatch z), .nil⟩
        | succ j =>
          obtain ⟨o, h1, h2⟩ := E4.ok j s e
          refine ⟨o, h1, ?_⟩
          have hn := noown_start j s e
          cases s with
          | any => trivial
          | ro d => exact h2
          | own _ => cases hn
          | ownd _ => cases hn
          | slf _ _ _ => cases hn
      · cases j with
        | zero =>
          cases k with
          | zero => rfl
          | succ k => rw [noown_start k sk e2] at o2; cases o2
        | succ j => rw [noown_start j sj e1] at o1; cases o1
    refine ⟨_, (pss_W (X := Xc P w K mg base N qual st f cdv A outer s _ E)).nox, ?_⟩
    exact body i xa f cdv A outer s _ E hr ⟨M, H0⟩ _ _ _ _ (by
      unfold L2.start
      rw [hv]
      exact E3) (ini_ends hx q)
  · subst ev eH
    have hsp : ∃ w1 w2, ws = w1 ++ w2 ∧ IsL M (pre1 i) w1 ∧ IsL M (rst i) w2 := by
      refine ⟨ws.take (pre1 i).length, ws.drop (pre1 i).length, (List.take_append_drop ..).symm, ?_, ?_⟩
      · have := l.take (pre1 i).length
        rwa [List.take_left] at this
      · have := l.drop (pre1 i).length
        rwa [List.drop_left] at this
    obtain ⟨w1, w2, rfl, l1, l2⟩ := hsp
    refine ⟨.ref xa :: w1, w2, rfl, by rw [List.length_cons, l1.length]; exact hl i, by rw [l2.length]; exact hz i, fun p hp => ?_⟩
    exact ⟨i, M, H0, xa, dx, p, w1, w2, rfl, rfl, hx, hdx, hne, hp, sm, l1, l2, q⟩
end
end FD
end
section
set_option maxHeartbeats 2000000
/-! words.py -/
namespace FD
open PySem PySem.Spec PyProof.Rows L2
theorem line1000 {n : Nat} (h : n ≤ 1000) : n ≤ sizeLine := by rw [sizeLine_eq]; omega
def abc : Str := "abcdefghijklmnopqrstuvwxyz"
def spelled (s : Str) (most : Int) : Bool := (decide ((1 : Int) ≤ s.length) && decide ((s.length : Int) ≤ most)) && s.cps.toList.all fun c => decide (c ∈ abc.cps.toList)
def spelledD (most : Int) : D → Bool
  | .str s => spelled s most
  | _ => false
abbrev nameD : D → Bool := spelledD 6
def D.items : D → List D
  | .tup ds => ds
  | .lst ds => ds
  | _ => []
def D.txt : D → Str
  | .str s => s
  | _ => ""
/-- a list or tuple of names, none twice -/
def namesD (d : D) : Bool := (d.isLst || d.isTup) && d.items.all nameD && decide ((d.items.map D.txt).Nodup)
theorem not_str {most : Int} {d : D} (h : d.isStr = false) : spelledD most d = false := by cases d <;> first | rfl | cases h
theorem str_of {d : D} (h : d.isStr = true) : ∃ s, d = .str s := by cases d <;> first | exact ⟨_, rfl⟩ | cases h
theorem sq_of {d : D} (h : (d.isLst || d.isTup) = true) : Sq d d.items := by cases d <;> first | exact .inl rfl | exact .inr rfl | cases h
theorem name_str {d : D} (h : nameD d = true) : d = .str d.txt := by cases d <;> first | rfl | cases h
theorem names_strs : ∀ {ds : List D}, ds.all nameD = true → ds = (ds.map D.txt).map D.str
  | [], _ => rfl
  | d :: ds, h => by
    rw [List.all_cons, Bool.and_eq_true] at h
    rw [List.map_cons, List.map_cons, ← name_str h.1, ← names_strs h.2]
section
variable {P : Program} {w : World} {K : PySem.W.Frag} {mg : Str → Option Value} {base : Heap} (T : Mo K mg)
abbrev s_is_spelled : Stmt := top 37
theorem sc_is_spelled : FnScope ["value", "most", "letter"] ["value", "most"] (defScope s_is_spelled) := ⟨rfl, rfl, rfl, by decide +kernel, rfl, by decide +kernel, by decide +kernel⟩
abbrev P_is_spelled : Sp := Pro (ι := {p : D × Int // Tp T p.1 ∧ p.1.txt.length ≤ 1000}) (fun i => [i.1.1, .int i.1.2]) fun i r => r = .bl (spelledD i.1.2 i.1.1)
theorem F_is_spelled (dn : Dn K mg "is_spelled" s_is_spelled) : Fd P w K mg base "is_spelled" 1 (P_is_spelled T) := by
  refine dn.fd (fun f fd G => fn_pro (k := 0) G sc_is_spelled (fun i => rfl) ?_) fun f fd G => G.binds fun _ _ _ _ _ _ us hl => match us, hl with | [_, _], _ => rfl
  rintro ⟨⟨d, most⟩, ht, hz⟩ f cdv A outer s H E hr
  have nd := sc_is_spelled.nd
  obtain ⟨tl, hl⟩ := T.letters
  refine ss_ifD0 (u := !d.isStr || !(decide ((1 : Int) ≤ d.txt.length) && decide ((d.txt.length : Int) ≤ most))) (JW.t (jw_or (jt_not (jt_val (i_str T (jv 0) ht))) fun h => ?_)) (fun h => ss_retD j_bl ?_) fun h => ?_
  · obtain ⟨s, rfl⟩ := str_of (g3 h)
    exact jw_or1 (jt_not (jt_le2 j_int (jd_lenS T (jv 0) (line1000 hz)) (jv 1)))
  · show D.bl false = .bl (spelledD most d)
    by_cases q : d.isStr = true
    · obtain ⟨s, rfl⟩ := str_of q
      rw [show spelledD most (.str s) = spelled s most from rfl]
      unfold spelled
      rw [show (decide ((1 : Int) ≤ s.length) && decide ((s.length : Int) ≤ most)) = false from g5 h]
      rfl
    · rw [not_str (ff_of q)]
  · obtain ⟨q, h⟩ := g2 h
    obtain ⟨s, rfl⟩ := str_of q
    refine ss_retD (jd_allc (xs := s.cps.toList) (f := fun c => decide (c ∈ abc.cps.toList)) T rfl (jd_lcm (own := [("letter", 2)]) s.cps.toList (fun c => .str ⟨#[c]⟩) _ rfl nd (blkOk_by (by kernel_rfl)) (ji_str (jv 0) (Nat.le_trans hz (by decide))) fun c hc => ⟨_, fun _ _ _ _ _ => jg_name (i := 2) nd rfl (by first | exact Or.inl rfl | exact Or.inr rfl) (by decide), fun _ _ _ _ _ => jd_inC (jv 2) (j_glob hl (v := .str _) ⟨_, rfl⟩ fun _ => .str _)⟩)) ?_
    show D.bl _ = .bl (spelled s most)
    unfold spelled
    rw [show (decide ((1 : Int) ≤ s.length) && decide ((s.length : Int) ≤ most)) = true from h, Bool.true_and]
abbrev s_is_name : Stmt := top 38
theorem sc_is_name : FnScope ["value"] ["value"] (defScope s_is_name) := ⟨rfl, rfl, rfl, by decide +kernel, rfl, by decide +kernel, by decide +kernel⟩
abbrev P_is_name : Sp := Pro (ι := {p : D // Tp T p ∧ p.txt.length ≤ 1000}) (fun i => [i.1]) fun i r => r = .bl (nameD i.1)
theorem F_is_name (dn : Dn K mg "is_name" s_is_name) (F1 : Fd P w K mg base "is_spelled" 1 (P_is_spelled T)) : Fd P w K mg base "is_name" 2 (P_is_name T) := by
  refine dn.fd (fun f fd G => fn_pro (k := 1) G sc_is_name (fun i => rfl) ?_) fun f fd G => G.binds fun _ _ _ _ _ _ us hl => match us, hl with | [_], _ => rfl
  rintro ⟨d, ht, hz⟩ f cdv A outer s H E hr
  obtain ⟨tl, hl⟩ := T.nameLen
  exact ss_retD (jd_f F1 ⟨(d, 6), ht, hz⟩ hr (jac (jv 0) (jac (j_glob hl (v := .int _) ⟨_, rfl⟩ fun _ => .int _) jan))) rfl
abbrev s_is_names : Stmt := top 40
theorem sc_is_names : FnScope ["value", "item"] ["value"] (defScope s_is_names) := ⟨rfl, rfl, rfl, by decide +kernel, rfl, by decide +kernel, by decide +kernel⟩
/-- what may be asked whether it is names -/
def Nq (d : D) : Prop := Tp T d ∧ d.items.length ≤ 1000 ∧ ∀ e ∈ d.items, Tp T e ∧ e.txt.length ≤ 1000
abbrev P_is_names : Sp := Pro (ι := {p : D // Nq T p}) (fun i => [i.1]) fun i r => r = .bl (namesD i.1)
theorem F_is_names (dn : Dn K mg "is_names" s_is_names) (F1 : Fd P w K mg base "is_name" 2 (P_is_name T)) : Fd P w K mg base "is_names" 3 (P_is_names T) := by
  refine dn.fd (fun f fd G => fn_pro (k := 2) G sc_is_names (fun i => rfl) ?_) fun f fd G => G.binds fun _ _ _ _ _ _ us hl => match us, hl with | [_], _ => rfl
  rintro ⟨d, ht, hz, hi⟩ f cdv A outer s H E hr
  have nd := sc_is_names.nd
  refine ss_ifD0 (u := !(d.isLst || d.isTup) || !(d.items.all nameD)) (JW.t (jw_or (jt_not (jt_val (i_seq T (jv 0) ht))) fun h => ?_)) (fun h => ss_retD j_bl ?_) fun h => ?_
  · exact jw_or1 (jt_not (jt_val (jd_allc (xs := d.items) (f := nameD) T rfl (jd_lcm (own := [("item", 1)]) d.items id _ rfl nd (blkOk_by (by kernel_rfl)) (by rw [List.map_id]; exact ji (jv 0) (Nat.le_trans hz (by decide)) (sq_of (g3 h))) fun c hc => ⟨_, fun _ _ _ _ _ => jg_name (i := 1) nd rfl (by first | exact Or.inl rfl | exact Or.inr rfl) (by decide), fun _ _ _ _ _ => jd_f F1 ⟨c, hi c hc⟩ hr (jac (jv 1) jan)⟩))))
  · show D.bl false = .bl (namesD d)
    unfold namesD
    rw [g1 h]
    rfl
  · obtain ⟨q, h⟩ := g2 h
    have hs : Sq d ((d.items.map D.txt).map D.str) := names_strs h ▸ sq_of q
    refine ss_retD (jd_eqI (jd_lenset T rfl (jv 0) (by rw [List.length_map]; exact hz) hs) (jd_len T (jv 0) (sq_of q))) ?_
    show D.bl _ = .bl (namesD d)
    unfold namesD
    rw [q, h, Bool.true_and, Bool.true_and]
    congr 1
    rw [decide_eq_decide, ← dd_len, List.length_map]
    omega
end
end FD
end
section
set_option maxHeartbeats 2000000
/-! models; rows.py -/
namespace FD
open PySem PySem.Spec PyProof.Rows L2
abbrev Rw := List Str × List Str
abbrev Rc := Str × Rw
def sL (ss : List Str) : D := .lst (ss.map .str)
def sT (ss : List Str) : D := .tup (ss.map .str)
abbrev nm (s : Str) : Bool := spelled s 6
/-- names, none twice -/
structure Nms (ss : List Str) : Prop where
  ok : ∀ s ∈ ss, nm s = true
  nd : ss.Nodup
/-- a row: two sides of names, apart, not many -/
structure RwOk (r : Rw) : Prop where
  p : Nms r.1
  c : Nms r.2
  ap : ∀ s ∈ r.1, s ∉ r.2
  f1 : r.1.length ≤ 8
  f2 : r.2.length ≤ 8
theorem nm_len {s : Str} (h : nm s = true) : s.length ≤ 6 := by
  unfold nm spelled at h
  simp only [Bool.and_eq_true, decide_eq_true_eq] at h
  omega
theorem nm_ok {s : Str} (h : nm s = true) : PyData.strOk s = true := by
  unfold nm spelled at h
  simp only [Bool.and_eq_true, List.all_eq_true, decide_eq_true_eq] at h
  unfold PyData.strOk
  rw [Array.all_eq_true']
  intro c hc
  have h1 := h.2 c (Array.mem_toList_iff.mpr hc)
  have h2 : ∀ k ∈ abc.cps.toList, k < 1114112 := by decide
  exact decide_eq_true (h2 c h1)
theorem Nms.sok {ss : List Str} (h : Nms ss) : SOk ss := fun s hs => nm_ok (h.ok s hs)
theorem srt_nms {ss : List Str} (h : Nms ss) : Nms (srt ss) := ⟨fun s hs => h.ok s (srt_mem.mp hs), (srt_perm ss).nodup_iff.mpr h.nd⟩
section
variable {K : PySem.W.Frag} {mg : Str → Option Value} (T : Mo K mg)
theorem tp_sL (ss : List Str) : Tp T (sL ss) := ⟨_, rfl⟩
theorem tp_sT (ss : List Str) : Tp T (sT ss) := ⟨_, rfl⟩
theorem nq_strs {d : D} {ss : List Str} (hd : d = sL ss ∨ d = sT ss) (hz : ss.length ≤ 1000) (h : ∀ s ∈ ss, s.length ≤ 1000) : Nq T d := by
  have key : ∀ e ∈ ss.map D.str, Tp T e ∧ e.txt.length ≤ 1000 := fun e he => by
    obtain ⟨s, hs, rfl⟩ := List.mem_map.mp he
    exact ⟨⟨_, rfl⟩, h s hs⟩
  rcases hd with rfl | rfl
  · exact ⟨⟨_, rfl⟩, by show (ss.map D.str).length ≤ 1000; rw [List.length_map]; exact hz, key⟩
  · exact ⟨⟨_, rfl⟩, by show (ss.map D.str).length ≤ 1000; rw [List.length_map]; exact hz, key⟩
theorem namesD_strs {d : D} {ss : List Str} (hd : d = sL ss ∨ d = sT ss) : namesD d = (ss.all nm && decide ss.Nodup) := by
  have e1 : (ss.map D.str).all nameD = ss.all nm := by rw [List.all_map]; rfl
  have e2 : (ss.map D.str).map D.txt = ss := by rw [List.map_map]; exact List.map_id ss
  rcases hd with rfl | rfl
  · show (true && (ss.map D.str).all nameD && decide (((ss.map D.str).map D.txt).Nodup)) = _
    rw [e1, e2, Bool.true_and]
  · show (true && (ss.map D.str).all nameD && decide (((ss.map D.str).map D.txt).Nodup)) = _
    rw [e1, e2, Bool.true_and]
theorem Nms.b {ss : List Str} (h : Nms ss) : (ss.all nm && decide ss.Nodup) = true := by
  rw [Bool.and_eq_true, List.all_eq_true, decide_eq_true_eq]
  exact ⟨h.ok, h.nd⟩
theorem Nms.of {ss : List Str} (h : (ss.all nm && decide ss.Nodup) = true) : Nms ss := by
  rw [Bool.and_eq_true, List.all_eq_true, decide_eq_true_eq] at h
  exact ⟨h.1, h.2⟩
theorem Nms.nq {d : D} {ss : List Str} (h : Nms ss) (hd : d = sL ss ∨ d = sT ss) (hz : ss.length ≤ 1000) : Nq T d := nq_strs T hd hz fun s hs => Nat.le_trans (nm_len (h.ok s hs)) (by decide)
/-- the instances -/
def rowI (r : Rw) : D := .ins T.cR [("pro", sT r.1), ("con", sT r.2), ("named", sT (srt (r.1 ++ r.2)))]
/-- a Row is made of a row whose sides stand in any order -/
def rowS (r : Rw) : Rw := (srt r.1, srt r.2)
variable {P : Program} {w : World} {base : Heap}
abbrev s_Row_init : Stmt := inClass (top 54) 0
theorem sc_Row_init : FnScope ["self", "pro", "con", "name"] ["self", "pro", "con"] (defScope s_Row_init) := ⟨rfl, rfl, rfl, by decide +kernel, rfl, by decide +kernel, by decide +kernel⟩
abbrev P_Row : Sp := Ini (ι := {r : Rw // RwOk r}) T.cR (fun i => [sL i.1.1, sL i.1.2]) fun i d => d = rowI T (rowS i.1)
structure Dz (K : PySem.W.Frag) (C : Addr) (qual : Str) (st : Stmt) : Prop where
  ex : ∃ f fd, Fz K "__init__" qual st f fd ∧ Mk K C f
theorem F_Row (dn : Dz K T.cR "Row.__init__" s_Row_init) (F1 : Fd P w K mg base "is_names" 3 (P_is_names T)) : Mc P w K mg base T.cR 4 (P_Row T) := by
  obtain ⟨f, fd, G, hm⟩ := dn.ex
  refine ⟨f, hm, fnok_r (fn_iniZ (k := 3) G sc_Row_init (fun i => rfl) ?_) (G.binds fun T kV doc pm an cdv ct us i1 i2 hl => match us, hl with | [_, _, _], _ => ⟨_, rfl, rfl⟩)⟩
  rintro ⟨⟨pro, con⟩, hp, hc, hap, f1, f2⟩ xa f cdv A outer s H E hr
  replace f1 : pro.length ≤ 8 := f1
  replace f2 : con.length ≤ 8 := f2
  have nd := sc_Row_init.nd
  refine ss_ifNo (jt_not (jt_val (jd_f F1 ⟨sL pro, hp.nq T (.inl rfl) (by omega)⟩ hr (jac (jv 1) jan)))) (by rw [namesD_strs (.inl rfl), hp.b]; rfl) ?_
  refine ss_ifNo (jt_not (jt_val (jd_f F1 ⟨sL con, hc.nq T (.inl rfl) (by omega)⟩ hr (jac (jv 2) jan)))) (by rw [namesD_strs (.inl rfl), hc.b]; rfl) ?_
  refine ss_ifNo (jt_val (jd_anyc (xs := pro) (f := fun s => decide (s ∈ con)) T rfl (jd_lcm (own := [("name", 3)]) pro D.str _ rfl nd (blkOk_by (by kernel_rfl)) (ji (jv 1) (by rw [List.length_map]; omega)) fun c _ => ⟨_, fun _ _ _ _ _ => jg_name (i := 3) nd rfl (by first | exact Or.inl rfl | exact Or.inr rfl) (by decide), fun _ _ _ _ _ => jd_inS (jv 3) (jv 2)⟩))) ?_ ?_
  · rw [List.any_eq_false]
    intro s hs
    simpa using hap s hs
  have r1 : NoAttr K T.cR "pro" := T.nR "pro" (by decide)
  have r2 : NoAttr K T.cR "con" := T.nR "con" (by decide)
  have r3 : NoAttr K T.cR "named" := T.nR "named" (by decide)
  refine ss_fld 0 (jd_tuple T (jd_sorted T (jd_list T (jv 1)) (ss := pro) (by omega))) rfl T.kR r1 (by simp) rfl ?_
  rintro _ rfl
  refine ss_fld 0 (jd_tuple T (jd_sorted T (jd_list T (jv 2)) (ss := con) (by omega))) rfl T.kR r2 (by simp) rfl ?_
  rintro _ rfl
  refine ss_fld 0 (jd_tuple T (jd_sorted T (jd_lst (ds := (srt pro).map D.str ++ ((srt con).map D.str ++ [])) (jas (jd_slf 0 T.kR r1 rfl) (jas (jd_slf 0 T.kR r2 rfl) jan (.inr rfl)) (.inr rfl)) (by rw [sizeLine_eq]; simp [srt_len]; omega)) (ss := srt pro ++ srt con) (by simp [srt_len]; omega) (.inl (by simp)))) rfl T.kR r3 (by simp) rfl ?_
  rintro _ rfl
  exact ss_nil ⟨_, rfl, rfl⟩
abbrev s_Row_idle : Stmt := inClass (top 54) 1
theorem sc_Row_idle : FnScope ["self"] ["self"] (defScope s_Row_idle) := ⟨rfl, rfl, rfl, by decide +kernel, rfl, by decide +kernel, by decide +kernel⟩
def idle (r : Rw) : Bool := decide (r = ([], []))
abbrev P_idle : Sp := Pro (ι := {r : Rw // RwOk r}) (fun i => [rowI T i.1]) fun i d => d = .bl (idle i.1)
structure Dp' (K : PySem.W.Frag) (C : Addr) (m qual : Str) (st : Stmt) : Prop where
  ex : ∃ p f fd, Fun K m qual st f fd ∧ PropOf K C m p f
theorem F_idle (dn : Dp' K T.cR "idle" "Row.idle" s_Row_idle) : Pt P w K mg base T.cR "idle" 1 (P_idle T) := by
  obtain ⟨p, f, fd, G, hp⟩ := dn.ex
  refine ⟨p, f, hp, fnok_r (fn_pro (k := 0) G sc_Row_idle (fun i => rfl) ?_) (G.binds fun _ _ _ _ _ _ us hl => match us, hl with | [_], _ => rfl)⟩
  rintro ⟨r, hr0⟩ f cdv A outer s H E hr
  have hk : Nms (srt (r.1 ++ r.2)) := srt_nms ⟨fun s hs => (List.mem_append.mp hs).elim (hr0.p.ok s) (hr0.c.ok s), List.nodup_append.mpr ⟨hr0.p.nd, hr0.c.nd, fun a ha b hb e => hr0.ap a ha (e ▸ hb)⟩⟩
  refine ss_retD (jd_eqST (zs := []) hr.units (jd_fld (jv 0) T.kR (T.nR "named" (by decide)) rfl) (jd_tup jan) hk.sok (fun _ h => nomatch h)) ?_
  show D.bl _ = .bl (idle r)
  congr 1
  unfold idle
  rw [decide_eq_decide]
  constructor
  · intro h
    have h2 : (r.1 ++ r.2) = [] := List.length_eq_zero_iff.mp (by rw [← srt_len, h]; rfl)
    rw [List.append_eq_nil_iff] at h2
    exact Prod.ext h2.1 h2.2
  · rintro rfl
    exact List.length_eq_zero_iff.mp (by rw [srt_len]; rfl)
end
end FD
end
section
set_option maxHeartbeats 2000000
/-! orders.py -/
namespace FD
open PySem PySem.Spec PyProof.Rows L2
theorem lookup_some {kvs : List (Str × D)} {s : Str} : (kvs.lookup s).isSome = decide (s ∈ kvs.map Prod.fst) := by
  induction kvs with
  | nil => rfl
  | cons p t ih =>
    obtain ⟨k, d⟩ := p
    by_cases h : s == k
    · have : s = k := by simpa using h
      subst this
      simp [List.lookup]
    · have hn : ¬ s = k := by simpa using h
      simp only [List.lookup, h, ih, List.map_cons, List.mem_cons, hn, false_or]
def spotsOf (o : List Str) : List (Str × D) := o.zipIdx.map fun p => (p.1, .int (p.2 : Nat))
theorem spots_keys (o : List Str) : (spotsOf o).map Prod.fst = o := by
  unfold spotsOf
  rw [List.map_map]
  exact List.zipIdx_map_fst 0 o
theorem spots_len (o : List Str) : (spotsOf o).length = o.length := by rw [← List.length_map (f := Prod.fst), spots_keys]
theorem spots_take {o : List Str} {i : Nat} {s : Str} (h : o[i]? = some s) : spotsOf (o.take (i + 1)) = spotsOf (o.take i) ++ [(s, .int (i : Nat))] := by
  have hl : i < o.length := by
    rcases Nat.lt_or_ge i o.length with h1 | h1
    · exact h1
    · rw [List.getElem?_eq_none h1] at h; cases h
  rw [List.getElem?_eq_getElem hl] at h
  cases h
  unfold spotsOf
  rw [List.take_succ_eq_append_getElem hl, List.zipIdx_append, List.map_append]
  simp [List.length_take, Nat.min_eq_left (Nat.le_of_lt hl)]
structure OrOk (o : List Str) : Prop where
  n : Nms o
  f0 : 1 ≤ o.length
  f7 : o.length ≤ 7
theorem not_in_take {o : List Str} (h : o.Nodup) {i : Nat} {s : Str} (e : o[i]? = some s) : s ∉ o.take i := by
  intro hm
  obtain ⟨j, hj, e2⟩ := List.mem_take_iff_getElem.mp hm
  have hl : i < o.length := by
    rcases Nat.lt_or_ge i o.length with h1 | h1
    · exact h1
    · rw [List.getElem?_eq_none h1] at e; cases e
  rw [List.getElem?_eq_getElem hl] at e
  cases e
  have := (List.getElem_inj (h₀ := by omega) (h₁ := hl) h).mp e2
  omega
theorem zipD_get {xs ys : List D} {i : Nat} {d : D} (h : (zipD xs ys)[i]? = some d) : ∃ x y, xs[i]? = some x ∧ ys[i]? = some y ∧ d = .tup [x, y] := by
  unfold zipD at h
  rw [List.getElem?_zipWith] at h
  cases e1 : xs[i]? with
  | none => rw [e1] at h; cases h
  | some x =>
    cases e2 : ys[i]? with
    | none => rw [e1, e2] at h; cases h
    | some y =>
      rw [e1, e2] at h
      cases h
      exact ⟨x, y, rfl, rfl, rfl⟩
theorem rng_get {n i : Nat} {d : D} (h : (rng n)[i]? = some d) : d = .int (i : Nat) ∧ i < n := by
  unfold rng at h
  rw [List.getElem?_map] at h
  cases e : (List.range n)[i]? with
  | none => rw [e] at h; cases h
  | some k =>
    rw [e] at h
    cases h
    have hl : i < n := by
      rcases Nat.lt_or_ge i n with h1 | h1
      · exact h1
      · rw [List.getElem?_eq_none (by simpa using h1)] at e; cases e
    rw [List.getElem?_range hl] at e
    cases e
    exact ⟨rfl, hl⟩
theorem map_get {α : Type} {f : α → D} {xs : List α} {i : Nat} {d : D} (h : (xs.map f)[i]? = some d) : ∃ x, xs[i]? = some x ∧ d = f x := by
  rw [List.getElem?_map] at h
  cases e : xs[i]? with
  | none => rw [e] at h; cases h
  | some x => rw [e] at h; cases h; exact ⟨x, rfl, rfl⟩
section
variable {P : Program} {w : World} {K : PySem.W.Frag} {mg : Str → Option Value} {base : Heap} (T : Mo K mg)
def ordI (o : List Str) : D := .ins T.cO [("ranked", sL o), ("spots", .dic (spotsOf o)), ("reasons", sT (srt o))]
abbrev s_Order_init : Stmt := inClass (top 44) 0
theorem sc_Order_init : FnScope ["self", "reasons", "spots", "at", "reason"] ["self", "reasons"] (defScope s_Order_init) := ⟨rfl, rfl, rfl, by decide +kernel, rfl, by decide +kernel, by decide +kernel⟩
abbrev P_Order : Sp := Ini (ι := {o : List Str // OrOk o}) T.cO (fun i => [] ++ i.1.map D.str) fun i d => d = ordI T i.1
structure Di (K : PySem.W.Frag) (C : Addr) (qual : Str) (st : Stmt) : Prop where
  ex : ∃ f fd, Fun K "__init__" qual st f fd ∧ Mk K C f
theorem F_Order (dn : Di K T.cO "Order.__init__" s_Order_init) (F1 : Fd P w K mg base "is_name" 2 (P_is_name T)) : Mc P w K mg base T.cO 3 (P_Order T) := by
  obtain ⟨f, fd, G, hm⟩ := dn.ex
  refine ⟨f, hm, fn_iniS (k := 2) (ps := ["self"]) (pv := "reasons") (pre1 := fun _ => []) (rst := fun i : {o : List Str // OrOk o} => i.1.map D.str) G sc_Order_init (fun i => rfl) (fun i => by rw [List.length_map]; exact line1000 (by have := i.2.f7; omega)) (fun kV doc pm an cdv ct us rest hl => match us, hl with | [u], _ => by cases rest <;> rfl) ?_⟩
  rintro ⟨o, ho, f0, f7⟩ xa f cdv A outer s H E hr
  replace f0 : 1 ≤ o.length := f0
  replace f7 : o.length ≤ 7 := f7
  have nd := sc_Order_init.nd
  obtain ⟨tl, hl⟩ := T.mostRanked
  refine ss_ifNo (jt_eqI (jd_len T (jv 1)) j_int) (decide_eq_false (by rw [List.length_map]; show ¬ ((o.length : Nat) : Int) = 0; omega)) ?_
  refine ss_ownD 2 nd ?_
  refine ss_for [3, 4] rfl PassesOwn.never (ji_enum T (jv 1) (by rw [List.length_map]; show o.length ≤ 1000000; omega)) (fun its i ρ1 => ∃ a b, ρ1 = [.slf xa T.cO [], .ro (.tup (o.map .str)), .ownd (spotsOf (o.take i)), a, b]) (fun its e => ⟨.any, .any, rfl⟩) ?_ ?_
  · rintro _ i d ρ1 rfl hd ⟨a, b, rfl⟩
    obtain ⟨x, y, hx, hy, rfl⟩ := zipD_get hd
    obtain ⟨rfl, hi⟩ := rng_get hx
    obtain ⟨s, hs, rfl⟩ := map_get hy
    have hsm : s ∈ o := List.mem_of_getElem? hs
    refine ⟨_, jg_two (i := 3) (j := 4) rfl nd rfl (Or.inl rfl) rfl (Or.inl rfl) (by decide) (by decide) rfl, ?_⟩
    have hnt := not_in_take ho.nd hs
    have hlk : ((spotsOf (o.take i)).lookup s).isSome = false := by rw [lookup_some, spots_keys]; simpa using hnt
    refine ss_ifNo (u := !nm s || (((spotsOf (o.take i)).lookup s).isSome || decide ((i : Int) = 7))) (JW.t (jw_or (jt_not (jt_val (jd_f F1 ⟨.str s, ⟨_, rfl⟩, by have := nm_len (ho.ok s hsm); show s.length ≤ 1000; omega⟩ hr (jac (jv 4) jan)))) fun _ => jw_or (jt_ownIn (hu_of hr) 2 (jv 4)) fun _ => jw_or1 (jt_eqI (jv 3) (j_glob hl (v := .int _) ⟨_, rfl⟩ fun _ => .int _)))) ?_ ?_
    · rw [ho.ok s hsm, hlk]
      rw [List.length_map] at hi
      replace hi : i < o.length := hi
      simp
      omega
    · refine ss_dput (hu_of hr) 2 (jv 3) (jv 4) rfl (by rw [spots_len, List.length_take, sizeLine_eq]; omega) (by simpa using hlk) ?_
      rintro _ rfl
      exact ss_nil ⟨_, _, by rw [spots_take hs]; rfl⟩
  · rintro _ ρ1 rfl ⟨a, b, rfl⟩
    have e : o.take (enumD (o.map D.str)).length = o := by
      rw [List.take_of_length_le]
      simp [enumD, zipD, rng]
    rw [e]
    have r1 : NoAttr K T.cO "ranked" := T.nO "ranked" (by decide)
    have r2 : NoAttr K T.cO "spots" := T.nO "spots" (by decide)
    have r3 : NoAttr K T.cO "reasons" := T.nO "reasons" (by decide)
    refine ss_fld 0 (jd_list T (jv 1)) rfl T.kO r1 (by simp) rfl ?_
    rintro _ rfl
    refine ss_frzD 2 rfl ?_
    refine ss_fld 0 (jv 2) rfl T.kO r2 (by simp) rfl ?_
    rintro _ rfl
    refine ss_fld 0 (jd_tuple T (jd_sorted T (jd_list T (jv 1)) (ss := o) (by omega))) rfl T.kO r3 (by simp) rfl ?_
    rintro _ rfl
    exact ss_nil ⟨_, rfl, rfl⟩
/-! decides, bears -/
/-- the row names none but the order's reasons -/
def Cov (o : List Str) (r : Rw) : Prop := ∀ s, s ∈ r.1 ∨ s ∈ r.2 → s ∈ o
def named (r : Rw) : List Str := srt (r.1 ++ r.2)
theorem mem_named {r : Rw} {s : Str} : s ∈ named r ↔ s ∈ r.1 ∨ s ∈ r.2 := by unfold named; rw [srt_mem, List.mem_append]
def decides (o : List Str) (r : Rw) : Option Str := o.find? fun s => decide (s ∈ named r)
def oStr : Option Str → D
  | some s => .str s
  | none => .non
abbrev s_Order_decides : Stmt := inClass (top 44) 4
theorem sc_Order_decides : FnScope ["self", "row", "reason"] ["self", "row"] (defScope s_Order_decides) := ⟨rfl, rfl, rfl, by decide +kernel, rfl, by decide +kernel, by decide +kernel⟩
/-- an order, a row and that the one names the other's -/
abbrev OR : Type := {p : List Str × Rw // OrOk p.1 ∧ RwOk p.2 ∧ Cov p.1 p.2}
abbrev P_decides : Sp := Pro (ι := OR) (fun i => [ordI T i.1.1, rowI T i.1.2]) fun i d => d = oStr (decides i.1.1 i.1.2)
theorem F_decides (dn : Dm K T.cO "decides" "Order.decides" s_Order_decides) : Md P w K mg base T.cO "decides" 1 (P_decides T) := by
  refine dn.md (fun f fd G => fn_pro (k := 0) G sc_Order_decides (fun i => rfl) ?_) fun f fd G => G.binds fun _ _ _ _ _ _ us hl => match us, hl with | [_, _], _ => rfl
  rintro ⟨⟨o, r⟩, ho, hro, hcov⟩ f cdv A outer s H E hr
  replace ho : OrOk o := ho
  have nd := sc_Order_decides.nd
  have f1 := hro.f1
  have f2 := hro.f2
  have f7 := ho.f7
  have nR : NoAttr K T.cR "named" := T.nR "named" (by decide)
  have nS : NoAttr K T.cO "spots" := T.nO "spots" (by decide)
  have nK : NoAttr K T.cO "ranked" := T.nO "ranked" (by decide)
  refine ss_for [2] rfl PassesOwn.never (ji (ds := (named r).map D.str) (jd_fld (jv 1) T.kR nR rfl) (by rw [List.length_map]; unfold named; rw [srt_len, List.length_append]; simp at f1 f2; omega) (.inr rfl)) (fun its i ρ1 => ∃ a, ρ1 = [.ro (ordI T o), .ro (rowI T r), a]) (fun its e => ⟨.any, rfl⟩) ?_ ?_
  · rintro _ i d ρ1 rfl hd ⟨a, rfl⟩
    obtain ⟨s, hs, rfl⟩ := map_get hd
    refine ⟨_, jg_name (i := 2) nd rfl (Or.inl rfl) (by decide), ?_⟩
    refine ss_ifNo (jt_dnin (hu_of hr) (jv 2) (jd_fld (jv 0) T.kO nS rfl)) ?_ (ss_nil ⟨_, rfl⟩)
    rw [lookup_some, spots_keys]
    have := hcov s (mem_named.mp (List.mem_of_getElem? hs))
    simpa using this
  · rintro _ ρ1 rfl ⟨a, rfl⟩
    refine ss_for [2] rfl PassesOwn.never (ji (ds := o.map D.str) (jd_fld (jv 0) T.kO nK rfl) (by rw [List.length_map]; omega) (.inl rfl)) (fun its i ρ1 => (∀ s ∈ o.take i, s ∉ named r) ∧ ∃ a, ρ1 = [.ro (ordI T o), .ro (rowI T r), a]) (fun its e => ⟨fun s h => by simp at h, a, rfl⟩) ?_ ?_
    · rintro _ i d ρ1 rfl hd ⟨hn, a, rfl⟩
      obtain ⟨s, hs, rfl⟩ := map_get hd
      refine ⟨_, jg_name (i := 2) nd rfl (Or.inl rfl) (by decide), ?_⟩
      have hl : i < o.length := by
        rcases Nat.lt_or_ge i o.length with h1 | h1
        · exact h1
        · rw [List.getElem?_eq_none h1] at hs; cases hs
      refine ss_ifD0 (jt_inS (ss := named r) (jv 2) (jd_fld (jv 1) T.kR nR rfl) (.inr rfl)) (fun h => ss_retD (jv 2) ?_) fun h => ss_nil ⟨?_, _, rfl⟩
      · show D.str s = oStr (decides o r)
        have : decides o r = some s := by
          unfold decides
          rw [List.find?_eq_some_iff_getElem]
          refine ⟨h, i, hl, ?_, fun j hj => ?_⟩
          · rw [List.getElem?_eq_getElem hl] at hs
            exact Option.some.inj hs
          · have := hn (o[j]'(by omega)) (List.mem_take_iff_getElem.mpr ⟨j, by omega, rfl⟩)
            simpa using this
        rw [this]
        rfl
      · intro z hz
        rw [List.take_succ_eq_append_getElem hl, List.mem_append] at hz
        rcases hz with hz | hz
        · exact hn z hz
        · rw [List.getElem?_eq_getElem hl] at hs
          cases hs
          rw [List.mem_singleton] at hz
          subst hz
          simpa using h
    · rintro _ ρ1 rfl ⟨hn, a, rfl⟩
      refine ss_retD j_non ?_
      show D.non = oStr (decides o r)
      have : decides o r = none := by
        unfold decides
        rw [List.find?_eq_none]
        intro x hx
        have := hn x (by rw [List.length_map, List.take_length]; exact hx)
        simpa using this
      rw [this]
      rfl
/-- the order bears the row -/
def bears (o : List Str) (r : Rw) : Bool := match decides o r with
  | some s => decide (s ∈ r.1)
  | none => true
abbrev s_Order_bears : Stmt := inClass (top 44) 5
theorem sc_Order_bears : FnScope ["self", "row", "reason"] ["self", "row"] (defScope s_Order_bears) := ⟨rfl, rfl, rfl, by decide +kernel, rfl, by decide +kernel, by decide +kernel⟩
abbrev P_bears : Sp := Pro (ι := OR) (fun i => [ordI T i.1.1, rowI T i.1.2]) fun i d => d = .bl (bears i.1.1 i.1.2)
theorem F_bears (dn : Dm K T.cO "bears" "Order.bears" s_Order_bears) (F1 : Md P w K mg base T.cO "decides" 1 (P_decides T)) : Md P w K mg base T.cO "bears" 2 (P_bears T) := by
  refine dn.md (fun f fd G => fn_pro (k := 1) G sc_Order_bears (fun i => rfl) ?_) fun f fd G => G.binds fun _ _ _ _ _ _ us hl => match us, hl with | [_, _], _ => rfl
  rintro ⟨⟨o, r⟩, ho, hro, hcov⟩ f cdv A outer s H E hr
  have nd := sc_Order_bears.nd
  have nP : NoAttr K T.cR "pro" := T.nR "pro" (by decide)
  refine ss_setD 2 nd (jd_me F1 ⟨(o, r), ho, hro, hcov⟩ (jv 0) T.kO hr (jac (jv 1) jan) rfl rfl) ?_
  unfold bears
  cases hd : decides o r with
  | none =>
    refine ss_retD (jd_or (u := true) (w := true) (jd_isN (d := D.non) (jv 2)) fun h => nomatch h) ?_
    rfl
  | some s =>
    refine ss_retD (jd_or (u := false) (w := decide (s ∈ r.1)) (jd_isN (d := D.str s) (jv 2)) fun _ => jd_one (jd_inS (ss := r.1) (jv 2) (jd_fld (jv 1) T.kR nP rfl) (.inr rfl))) ?_
    rfl
end
end FD
end
section
set_option maxHeartbeats 2000000
/-! Order.read; books.py -/
namespace FD
open PySem PySem.Spec PyProof.Rows L2
theorem OrOk.of {ss : List Str} (h : Nms ss) (h0 : 1 ≤ ss.length) (h7 : ss.length ≤ 7) : OrOk ss := ⟨h, h0, h7⟩
theorem sum_le : ∀ (ss : List Str), (∀ s ∈ ss, s.length ≤ 6) → (ss.map (·.length)).sum ≤ 6 * ss.length
  | [], _ => by simp
  | s :: ss, h => by
    have h1 := sum_le ss fun z hz => h z (List.mem_cons_of_mem _ hz)
    have h2 := h s List.mem_cons_self
    simp only [List.map_cons, List.sum_cons, List.length_cons]
    omega
theorem nm_no32 {s : Str} (h : nm s = true) : (32 : Nat) ∉ TL.tl s := by
  unfold nm spelled at h
  simp only [Bool.and_eq_true, List.all_eq_true, decide_eq_true_eq] at h
  intro hm
  have h1 := h.2 32 hm
  exact absurd h1 (by decide)
theorem read_back {o : List Str} (ho : OrOk o) : Txt.split (Txt.join " > " o) " > " = o :=
  TL.split_join (s := 32) (S := [62, 32]) (by rfl) (by decide +kernel) (fun e => by have := ho.f0; rw [e] at this; simp at this) fun p hp => nm_no32 (ho.n.ok p hp)
theorem joinL_len (S : List Nat) : ∀ ps : List (List Nat), (TL.joinL S ps).length ≤ (ps.map (·.length)).sum + ps.length * S.length
  | [] => by simp [TL.joinL]
  | [p] => by simp [TL.joinL]
  | p :: q :: r => by
    have ih := joinL_len S (q :: r)
    simp only [TL.joinL, List.length_append, List.map_cons, List.sum_cons, List.length_cons, Nat.add_mul, Nat.one_mul] at ih ⊢
    omega
theorem join_len (sep : Str) (parts : List Str) : (Txt.join sep parts).length ≤ (parts.map (·.length)).sum + parts.length * sep.length := by
  have h := joinL_len (TL.tl sep) (parts.map TL.tl)
  rw [← TL.tl_join, List.length_map, List.map_map] at h
  rw [TL.join_eq, TL.len_tl, TL.len_tl sep]
  have e : (parts.map ((fun x => x.length) ∘ TL.tl)) = parts.map fun x => x.length := List.map_congr_left fun x _ => (TL.len_tl x).symm
  rw [e] at h
  exact h
section
variable {P : Program} {w : World} {K : PySem.W.Frag} {mg : Str → Option Value} {base : Heap} (T : Mo K mg)
abbrev s_Order_read : Stmt := inClass (top 44) 8
theorem sc_Order_read : FnScope ["text", "reasons"] ["text"] (defScope s_Order_read) := ⟨rfl, rfl, rfl, by decide +kernel, rfl, by decide +kernel, by decide +kernel⟩
abbrev P_read : Sp := Pro (ι := {o : List Str // OrOk o}) (fun i => [.str (Txt.join " > " i.1)]) fun i d => d = ordI T i.1
/-- a static method -/
structure Ds (K : PySem.W.Frag) (C : Addr) (mc : Value) (m qual : Str) (st : Stmt) : Prop where
  ex : ∃ q f fd, Fun K m qual st f fd ∧ Stm K C mc m q f
structure St (P : Program) (w : World) (K : PySem.W.Frag) (mg : Str → Option Value) (base : Heap) (C : Addr) (mc : Value) (m : Str) (k : Nat) (sp : Sp) : Prop where
  ex : ∃ q f, Stm K C mc m q f ∧ FnR P w K mg base CX0 k f sp
theorem F_read (dn : Ds K T.cO T.mcl "read" "Order.read" s_Order_read) (F1 : Fd P w K mg base "is_names" 3 (P_is_names T)) (F2 : Mc P w K mg base T.cO 3 (P_Order T)) : St P w K mg base T.cO T.mcl "read" 5 (P_read T) := by
  obtain ⟨q, f, fd, G, hs⟩ := dn.ex
  refine ⟨q, f, hs, fnok_r (fn_pro (k := 4) G sc_Order_read (fun i => rfl) ?_) (G.binds fun _ _ _ _ _ _ us hl => match us, hl with | [_], _ => rfl)⟩
  rintro ⟨o, ho⟩ f cdv A outer s H E hr
  have nd := sc_Order_read.nd
  obtain ⟨tl, hl⟩ := T.mostRanked
  have hlen : (Txt.join " > " o).length + 2 ≤ sizeLine := by
    have h1 := join_len " > " o
    have h2 := sum_le o fun s hs => nm_len (ho.n.ok s hs)
    have h3 := ho.f7
    have h4 : (" > " : Str).length = 3 := rfl
    rw [h4] at h1
    rw [sizeLine_eq]
    omega
  refine ss_ifNo (jt_not (jt_val (i_str T (jv 0) ⟨_, rfl⟩))) rfl ?_
  refine ss_setD 1 nd (j_eq (jd_split (jv 0) j_str rfl hlen) (by rw [read_back ho]; rfl : _ = sL o)) ?_
  refine ss_ifNo (u := decide ((7 : Int) < o.length) || !(o.all nm && decide o.Nodup)) (JW.t (jw_or (jt_gt (j_eq (jd_len T (jv 1)) (by rw [List.length_map])) (j_glob hl (v := .int _) ⟨_, rfl⟩ fun _ => .int _)) fun _ => jw_or1 (jt_not (jt_val (jd_f F1 ⟨sL o, ho.n.nq T (.inl rfl) (by have := ho.f7; omega)⟩ (hr.mono (by decide)) (jac (jv 1) jan) (hp := by rintro _ rfl; rw [namesD_strs (.inl rfl)])))))) ?_ ?_
  · rw [ho.n.b]
    have := ho.f7
    simp
    omega
  · exact ss_ret (jd_mkS1 F2 ⟨o, ho⟩ hr T.gO (jv 1)) fun d h => h
end
end FD
end
section
set_option maxHeartbeats 2000000
/-! books.py -/
namespace FD
open PySem PySem.Spec PyProof.Rows L2
/-- a book: reasons and records -/
structure BkOk (ns : List Str) (rs : List Rc) : Prop where
  n : Nms ns
  n0 : 1 ≤ ns.length
  n7 : ns.length ≤ 7
  m : Nms (rs.map Prod.fst)
  r40 : rs.length ≤ 40
  rw : ∀ r ∈ rs, RwOk r.2
  cov : ∀ r ∈ rs, Cov ns r.2
  fw : (rs.flatMap fun r => r.2.1).length < 64
  fw2 : (rs.flatMap fun r => r.2.2).length < 64
theorem map_fst_get {rs : List Rc} {i : Nat} {r : Rc} (h : rs[i]? = some r) : (rs.map Prod.fst)[i]? = some r.1 := by rw [List.getElem?_map, h]; rfl
section
variable {P : Program} {w : World} {K : PySem.W.Frag} {mg : Str → Option Value} {base : Heap} (T : Mo K mg)
/-- a record with its Row -/
def rcI (r : Rc) : D := .tup [.str r.1, rowI T r.2]
def byM (rs : List Rc) : List (Str × D) := rs.map fun r => (r.1, rowI T r.2)
/-- the Book; ss: its reasons in order -/
def bookI (ns : List Str) (rs : List Rc) : D := .ins T.cB [("reasons", sT (srt ns)), ("by_mark", .dic (byM T rs))]
theorem byM_keys (rs : List Rc) : (byM T rs).map Prod.fst = rs.map Prod.fst := by unfold byM; rw [List.map_map]; rfl
theorem byM_get : ∀ {rs : List Rc} {r : Rc}, (rs.map Prod.fst).Nodup → r ∈ rs → (byM T rs).lookup r.1 = some (rowI T r.2)
  | a :: rs, r, nd, h => by
    rw [List.map_cons, List.nodup_cons] at nd
    rcases List.mem_cons.mp h with rfl | h
    · simp [byM, List.lookup]
    · have hn : (r.1 == a.1) = false := by
        rw [beq_eq_false_iff_ne]
        exact fun e => nd.1 (e ▸ List.mem_map_of_mem h)
      show List.lookup r.1 ((a.1, rowI T a.2) :: byM T rs) = _
      simp only [List.lookup, hn]
      exact byM_get nd.2 h
abbrev s_is_record : Stmt := top 71
theorem sc_is_record : FnScope ["value"] ["value"] (defScope s_is_record) := ⟨rfl, rfl, rfl, by decide +kernel, rfl, by decide +kernel, by decide +kernel⟩
abbrev P_is_record : Sp := Pro (ι := {r : Rc // nm r.1 = true}) (fun i => [rcI T i.1]) fun i d => d = .bl true
theorem F_is_record (dn : Dn K mg "is_record" s_is_record) (F1 : Fd P w K mg base "is_name" 2 (P_is_name T)) : Fd P w K mg base "is_record" 3 (P_is_record T) := by
  refine dn.fd (fun f fd G => fn_pro (k := 2) G sc_is_record (fun i => rfl) ?_) fun f fd G => G.binds fun _ _ _ _ _ _ us hl => match us, hl with | [_], _ => rfl
  rintro ⟨⟨m, r⟩, hm⟩ f cdv A outer s H E hr
  replace hm : nm m = true := hm
  refine ss_ifNo (JW.t (jw_or (jt_not (jt_val (i_tuple T (jv 0) ⟨_, rfl⟩))) fun _ => jw_or1 (jt_neI (jd_len T (jv 0)) j_int))) rfl ?_
  refine ss_retD (jd_and (u := true) (w := true) (jd_f F1 ⟨.str m, ⟨_, rfl⟩, by have := nm_len hm; show m.length ≤ 1000; omega⟩ hr (jac (jd_ix (jv 0) j_int rfl (.inr rfl)) jan) (hp := by rintro _ rfl; exact congrArg D.bl hm)) fun _ => jd_one (j_eq (i_Row T (jd_ix (jv 0) j_int rfl (.inr rfl)) ⟨.row, ?_⟩) ?_)) rfl
  · show (if T.cR = T.cR then some Tg.row else _) = _
    rw [if_pos rfl]
  · show D.bl (decide (T.cR = T.cR)) = _
    rw [decide_eq_true rfl]
abbrev s_stranger : Stmt := top 72
theorem sc_stranger : FnScope ["row", "reasons", "reason"] ["row", "reasons"] (defScope s_stranger) := ⟨rfl, rfl, rfl, by decide +kernel, rfl, by decide +kernel, by decide +kernel⟩
/-- names in a list or a tuple -/
def sLT (b : Bool) (ss : List Str) : D := if b = true then sT ss else sL ss
theorem sLT_or (b : Bool) (ss : List Str) : sLT b ss = sL ss ∨ sLT b ss = sT ss := by cases b <;> first | exact .inl rfl | exact .inr rfl
theorem sLT_sq (b : Bool) (ss : List Str) : Sq (sLT b ss) (ss.map D.str) := by cases b <;> first | exact .inl rfl | exact .inr rfl
abbrev P_stranger : Sp := Pro (ι := {p : Rw × Bool × List Str // RwOk p.1 ∧ Cov p.2.2 p.1}) (fun i => [rowI T i.1.1, sLT i.1.2.1 i.1.2.2]) fun i d => d = .non
theorem named_len {r : Rw} (h : RwOk r) : (named r).length ≤ 16 := by
  have f1 := h.f1
  have f2 := h.f2
  unfold named
  rw [srt_len, List.length_append]
  omega
theorem F_stranger (dn : Dn K mg "stranger" s_stranger) : Fd P w K mg base "stranger" 1 (P_stranger T) := by
  refine dn.fd (fun f fd G => fn_pro (k := 0) G sc_stranger (fun i => rfl) ?_) fun f fd G => G.binds fun _ _ _ _ _ _ us hl => match us, hl with | [_, _], _ => rfl
  rintro ⟨⟨r, b, ns⟩, hro, hcov⟩ f cdv A outer s H E hr
  replace hro : RwOk r := hro
  replace hcov : Cov ns r := hcov
  have nd := sc_stranger.nd
  have nR : NoAttr K T.cR "named" := T.nR "named" (by decide)
  refine ss_for [2] rfl PassesOwn.never (ji (ds := (named r).map D.str) (jd_fld (jv 0) T.kR nR rfl) (by rw [List.length_map]; have := named_len hro; omega) (.inr rfl)) (fun its i ρ1 => ∃ a, ρ1 = [.ro (rowI T r), .ro (sLT b ns), a]) (fun its e => ⟨.any, rfl⟩) ?_ ?_
  · rintro _ i d ρ1 rfl hd ⟨a, rfl⟩
    obtain ⟨s, hs, rfl⟩ := map_get hd
    refine ⟨_, jg_name (i := 2) nd rfl (Or.inl rfl) (by decide), ?_⟩
    refine ss_ifNo (jt_ninS (ss := ns) (jv 2) (jv 1) (sLT_sq b ns)) ?_ (ss_nil ⟨_, rfl⟩)
    have := hcov s (mem_named.mp (List.mem_of_getElem? hs))
    simpa using this
  · rintro _ ρ1 rfl ⟨a, rfl⟩
    exact ss_retD j_non rfl
abbrev s_Book_init : Stmt := inClass (top 73) 1
theorem sc_Book_init : FnScope ["self", "reasons", "records", "by_mark", "at", "record", "mark", "row", "reason"] ["self", "reasons", "records"] (defScope s_Book_init) := ⟨rfl, rfl, rfl, by decide +kernel, rfl, by decide +kernel, by decide +kernel⟩
abbrev Bk : Type := {p : Bool × List Str × List Rc // BkOk p.2.1 p.2.2}
abbrev P_Book : Sp := Ini (ι := Bk) T.cB (fun i => [sLT i.1.1 i.1.2.1] ++ i.1.2.2.map (rcI T)) fun i d => d = bookI T i.1.2.1 i.1.2.2
theorem F_Book (dn : Di K T.cB "Book.__init__" s_Book_init) (F1 : Fd P w K mg base "is_names" 3 (P_is_names T)) (F2 : Fd P w K mg base "is_record" 3 (P_is_record T)) (F3 : Fd P w K mg base "stranger" 1 (P_stranger T)) : Mc P w K mg base T.cB 4 (P_Book T) := by
  obtain ⟨f, fd, G, hm⟩ := dn.ex
  refine ⟨f, hm, fn_iniS (k := 3) (ps := ["self", "reasons"]) (pv := "records") (pre1 := fun i : Bk => [sLT i.1.1 i.1.2.1]) (rst := fun i : Bk => i.1.2.2.map (rcI T)) G sc_Book_init (fun i => rfl) (fun i => by rw [List.length_map]; exact line1000 (by have := i.2.r40; omega)) (fun kV doc pm an cdv ct us rest hl => match us, hl with | [u, v], _ => by cases rest <;> rfl) ?_⟩
  rintro ⟨⟨b, ns, rs⟩, hb⟩ xa f cdv A outer s H E hr
  replace hb : BkOk ns rs := hb
  have nd := sc_Book_init.nd
  obtain ⟨tl, hl⟩ := T.mostReasons
  obtain ⟨mu, hmu⟩ := T.most
  have n0 := hb.n0
  have n7 := hb.n7
  have r40 := hb.r40
  have hls : (rs.map (rcI T)).length = rs.length := List.length_map ..
  refine ss_ifNo (u := !(ns.all nm && decide ns.Nodup) || !(decide ((1 : Int) ≤ (ns.length : Nat)) && decide (((ns.length : Nat) : Int) ≤ 7))) (JW.t (jw_or (jt_not (jt_val (jd_f F1 ⟨sLT b ns, hb.n.nq T (sLT_or b ns) (by omega)⟩ hr (jac (jv 1) jan) (hp := by rintro _ rfl; rw [namesD_strs (sLT_or b ns)])))) fun _ => jw_or1 (jt_not (jt_le2 j_int (j_eq (jd_len T (jv 1) (sLT_sq b ns)) (by rw [List.length_map])) (j_glob hl (v := .int _) ⟨_, rfl⟩ fun _ => .int _))))) (by rw [hb.n.b]; simp; omega) ?_
  refine ss_for [4, 5] rfl PassesOwn.never (ji_enum T (jv 2) (by show (rs.map (rcI T)).length ≤ _; omega)) (fun its i ρ1 => ∃ a b', ρ1 = [.slf xa T.cB [], .ro (sLT b ns), .ro (.tup (rs.map (rcI T))), .any, a, b', .any, .any, .any]) (fun its e => ⟨.any, .any, rfl⟩) ?_ ?_
  · rintro _ i d ρ1 rfl hd ⟨a, b', rfl⟩
    obtain ⟨x, y, hx, hy, rfl⟩ := zipD_get hd
    obtain ⟨r, hrs, rfl⟩ := map_get hy
    refine ⟨_, jg_two (i := 4) (j := 5) rfl nd rfl (Or.inl rfl) rfl (Or.inl rfl) (by decide) (by decide) rfl, ?_⟩
    exact ss_ifNo (jt_not (jt_val (jd_f F2 ⟨r, hb.m.ok _ (List.mem_map_of_mem (List.mem_of_getElem? hrs))⟩ hr (jac (jv 5) jan)))) rfl (ss_nil ⟨_, _, rfl⟩)
  rintro _ ρ1 rfl ⟨a, b', rfl⟩
  refine ss_ifNo (jt_gt (jd_len T (jv 2)) (jd_cc T.crB hmu T.gB fun _ => .int _)) (decide_eq_false (by rw [hls]; omega)) ?_
  refine ss_ownD 3 nd ?_
  refine ss_for [6, 7] rfl PassesOwn.never (ji (ds := rs.map (rcI T)) (jv 2) (by omega)) (fun its i ρ1 => ∃ c d, ρ1 = [.slf xa T.cB [], .ro (sLT b ns), .ro (.tup (rs.map (rcI T))), .ownd (byM T (rs.take i)), a, b', c, d, .any]) (fun its e => ⟨.any, .any, rfl⟩) ?_ ?_
  · rintro _ i d ρ1 rfl hd ⟨c, d', rfl⟩
    obtain ⟨r, hrs, rfl⟩ := map_get hd
    refine ⟨_, jg_two (i := 6) (j := 7) rfl nd rfl (Or.inl rfl) rfl (Or.inl rfl) (by decide) (by decide) rfl, ?_⟩
    have hnt := not_in_take hb.m.nd (map_fst_get hrs)
    rw [← List.map_take] at hnt
    have hlk : ((byM T (rs.take i)).lookup r.1).isSome = false := by rw [lookup_some, byM_keys]; simpa using hnt
    refine ss_ifNo (jt_ownIn (hu_of hr) 3 (jv 6)) hlk ?_
    refine ss_dput (hu_of hr) 3 (jv 7) (jv 6) rfl (by unfold byM; rw [List.length_map, List.length_take, sizeLine_eq]; omega) (by simpa using hlk) ?_
    rintro _ rfl
    refine ss_nil ⟨.ro (.str r.1), .ro (rowI T r.2), ?_⟩
    have hl : i < rs.length := by
      rcases Nat.lt_or_ge i rs.length with h1 | h1
      · exact h1
      · rw [List.getElem?_eq_none h1] at hrs; cases hrs
    rw [List.getElem?_eq_getElem hl] at hrs
    cases hrs
    have e : byM T (rs.take (i + 1)) = byM T (rs.take i) ++ [(rs[i].1, rowI T rs[i].2)] := by unfold byM; rw [List.take_succ_eq_append_getElem hl, List.map_append]; rfl
    rw [e]
    rfl
  rintro _ ρ1 rfl ⟨c, d', rfl⟩
  rw [hls, List.take_length]
  refine ss_frzD 3 rfl ?_
  refine ss_for [6, 7] rfl PassesOwn.never (ji (ds := rs.map (rcI T)) (jv 2) (by omega)) (fun its i ρ1 => ∃ c d e, ρ1 = [.slf xa T.cB [], .ro (sLT b ns), .ro (.tup (rs.map (rcI T))), .ro (.dic (byM T rs)), a, b', c, d, e]) (fun its e => ⟨c, d', .any, rfl⟩) ?_ ?_
  · rintro _ i d ρ1 rfl hd ⟨c, d', e', rfl⟩
    obtain ⟨r, hrs, rfl⟩ := map_get hd
    have hrm := List.mem_of_getElem? hrs
    refine ⟨_, jg_two (i := 6) (j := 7) rfl nd rfl (Or.inl rfl) rfl (Or.inl rfl) (by decide) (by decide) rfl, ?_⟩
    refine ss_setD 8 nd (jd_f F3 ⟨(r.2, b, ns), hb.rw r hrm, hb.cov r hrm⟩ (hr.mono (by decide)) (jac (jv 7) (jac (jv 1) jan))) ?_
    exact ss_ifNo (jt_notN (jv 8)) rfl (ss_nil ⟨_, _, _, rfl⟩)
  rintro _ ρ1 rfl ⟨c, d', e', rfl⟩
  have r1 : NoAttr K T.cB "reasons" := T.nB "reasons" (by decide)
  have r2 : NoAttr K T.cB "by_mark" := T.nB "by_mark" (by decide)
  refine ss_fld 0 (jd_tuple T (jd_sorted T (jd_list T (jv 1) (sLT_sq b ns)) (ss := ns) (by omega))) rfl T.kB r1 (by simp) rfl ?_
  rintro _ rfl
  refine ss_fld 0 (jv 3) rfl T.kB r2 (by simp) rfl ?_
  rintro _ rfl
  exact ss_nil ⟨_, rfl, rfl⟩
end
end FD
end
section
set_option maxHeartbeats 2000000
/-! books.py: methods; fitting.py -/
namespace FD
open PySem PySem.Spec PyProof.Rows L2
section
variable {P : Program} {w : World} {K : PySem.W.Frag} {mg : Str → Option Value} {base : Heap} (T : Mo K mg)
/-- a book as it stands -/
abbrev Bq : Type := {p : List Str × List Rc // BkOk p.1 p.2}
abbrev Bq.d (b : Bq) : D := bookI T b.1.1 b.1.2
abbrev s_Book_records : Stmt := inClass (top 73) 2
theorem sc_Book_records : FnScope ["self"] ["self"] (defScope s_Book_records) := ⟨rfl, rfl, rfl, by decide +kernel, rfl, by decide +kernel, by decide +kernel⟩
abbrev P_records : Sp := Pro (ι := Bq) (fun i => [i.d T]) fun i d => d = .lst (i.1.2.map (rcI T))
theorem F_records (dn : Dm K T.cB "records" "Book.records" s_Book_records) : Md P w K mg base T.cB "records" 1 (P_records T) := by
  refine dn.md (fun f fd G => fn_pro (k := 0) G sc_Book_records (fun i => rfl) ?_) fun f fd G => G.binds fun _ _ _ _ _ _ us hl => match us, hl with | [_], _ => rfl
  rintro ⟨⟨ns, rs⟩, hb⟩ f cdv A outer s H E hr
  have r2 : NoAttr K T.cB "by_mark" := T.nB "by_mark" (by decide)
  refine ss_retD (jd_items T rfl (jd_fld (jv 0) T.kB r2 rfl)) ?_
  show D.lst _ = _
  unfold byM
  rw [List.map_map]
  rfl
abbrev s_Book_marks : Stmt := inClass (top 73) 3
theorem sc_Book_marks : FnScope ["self"] ["self"] (defScope s_Book_marks) := ⟨rfl, rfl, rfl, by decide +kernel, rfl, by decide +kernel, by decide +kernel⟩
abbrev P_marks : Sp := Pro (ι := Bq) (fun i => [i.d T]) fun i d => d = sL (i.1.2.map Prod.fst)
theorem F_marks (dn : Dm K T.cB "marks" "Book.marks" s_Book_marks) : Md P w K mg base T.cB "marks" 1 (P_marks T) := by
  refine dn.md (fun f fd G => fn_pro (k := 0) G sc_Book_marks (fun i => rfl) ?_) fun f fd G => G.binds fun _ _ _ _ _ _ us hl => match us, hl with | [_], _ => rfl
  rintro ⟨⟨ns, rs⟩, hb⟩ f cdv A outer s H E hr
  have r2 : NoAttr K T.cB "by_mark" := T.nB "by_mark" (by decide)
  refine ss_retD (jd_listD T rfl (jd_fld (jv 0) T.kB r2 rfl)) ?_
  rw [byM_keys]
  rfl
abbrev s_Book_contains : Stmt := inClass (top 73) 14
theorem sc_Book_contains : FnScope ["self", "mark"] ["self", "mark"] (defScope s_Book_contains) := ⟨rfl, rfl, rfl, by decide +kernel, rfl, by decide +kernel, by decide +kernel⟩
/-- a book and one of its records -/
abbrev Br : Type := {p : Bq × Rc // p.2 ∈ p.1.1.2}
abbrev P_contains : Sp := Pro (ι := Br) (fun i => [i.1.1.d T, .str i.1.2.1]) fun i d => d = .bl true
structure Dc (K : PySem.W.Frag) (C : Addr) (qual : Str) (st : Stmt) : Prop where
  ex : ∃ f fd, Fun K "__contains__" qual st f fd ∧ Has K C f
structure Hs (P : Program) (w : World) (K : PySem.W.Frag) (mg : Str → Option Value) (base : Heap) (C : Addr) (k : Nat) (sp : Sp) : Prop where
  ex : ∃ f, Has K C f ∧ FnR P w K mg base CX0 k f sp
theorem F_contains (dn : Dc K T.cB "Book.__contains__" s_Book_contains) (F1 : Fd P w K mg base "is_name" 2 (P_is_name T)) : Hs P w K mg base T.cB 3 (P_contains T) := by
  obtain ⟨f, fd, G, hm⟩ := dn.ex
  refine ⟨f, hm, fnok_r (fn_pro (k := 2) G sc_Book_contains (fun i => rfl) ?_) (G.binds fun _ _ _ _ _ _ us hl => match us, hl with | [_, _], _ => rfl)⟩
  rintro ⟨⟨⟨⟨ns, rs⟩, hb⟩, r⟩, hm⟩ f cdv A outer s H E hr
  replace hb : BkOk ns rs := hb
  replace hm : r ∈ rs := hm
  have hn := hb.m.ok _ (List.mem_map_of_mem (f := Prod.fst) hm)
  have r2 : NoAttr K T.cB "by_mark" := T.nB "by_mark" (by decide)
  refine ss_retD (jd_and (u := true) (w := true) (jd_f F1 ⟨.str r.1, ⟨_, rfl⟩, by have := nm_len hn; show r.1.length ≤ 1000; omega⟩ hr (jac (jv 1) jan) (hp := by rintro _ rfl; exact congrArg D.bl hn)) fun _ => jd_one (j_eq (jd_din (hu_of hr) (jv 1) (jd_fld (jv 0) T.kB r2 rfl)) ?_)) rfl
  rw [byM_get T hb.m.nd hm]
  rfl
abbrev s_Book_row : Stmt := inClass (top 73) 5
theorem sc_Book_row : FnScope ["self", "mark"] ["self", "mark"] (defScope s_Book_row) := ⟨rfl, rfl, rfl, by decide +kernel, rfl, by decide +kernel, by decide +kernel⟩
abbrev P_brow : Sp := Pro (ι := Br) (fun i => [i.1.1.d T, .str i.1.2.1]) fun i d => d = rowI T i.1.2.2
theorem F_brow (dn : Dm K T.cB "row" "Book.row" s_Book_row) (F1 : Hs P w K mg base T.cB 3 (P_contains T)) : Md P w K mg base T.cB "row" 4 (P_brow T) := by
  refine dn.md (fun f fd G => fn_pro (k := 3) G sc_Book_row (fun i => rfl) ?_) fun f fd G => G.binds fun _ _ _ _ _ _ us hl => match us, hl with | [_, _], _ => rfl
  rintro ⟨⟨⟨⟨ns, rs⟩, hb⟩, r⟩, hm⟩ f cdv A outer s H E hr
  replace hb : BkOk ns rs := hb
  replace hm : r ∈ rs := hm
  have r2 : NoAttr K T.cB "by_mark" := T.nB "by_mark" (by decide)
  obtain ⟨fc, c, F1⟩ := F1.ex
  refine ss_ifNo (jt_hasnot c F1 ⟨(⟨(ns, rs), hb⟩, r), hm⟩ hr (jv 1) (jv 0) rfl (u := true) (fun d h => h)) rfl ?_
  exact ss_retD (jd_dget (hu_of hr) (jd_fld (jv 0) T.kB r2 rfl) (jv 1) (byM_get T hb.m.nd hm)) rfl
abbrev s_Book_is_lot : Stmt := inClass (top 73) 9
theorem sc_Book_is_lot : FnScope ["self", "value", "mark"] ["self", "value"] (defScope s_Book_is_lot) := ⟨rfl, rfl, rfl, by decide +kernel, rfl, by decide +kernel, by decide +kernel⟩
def isLot (rs : List Rc) (ss : List Str) : Bool := (ss.all nm && decide ss.Nodup) && decide (ss = (rs.map Prod.fst).filter fun m => decide (m ∈ ss))
abbrev P_is_lot : Sp := Pro (ι := {p : Bq × List Str // p.2.length ≤ 1000 ∧ ∀ s ∈ p.2, s.length ≤ 1000}) (fun i => [i.1.1.d T, sT i.1.2]) fun i d => d = .bl (isLot i.1.1.1.2 i.1.2)
theorem F_is_lot (dn : Dm K T.cB "is_lot" "Book.is_lot" s_Book_is_lot) (F1 : Fd P w K mg base "is_names" 3 (P_is_names T)) (F2 : Md P w K mg base T.cB "marks" 1 (P_marks T)) : Md P w K mg base T.cB "is_lot" 4 (P_is_lot T) := by
  refine dn.md (fun f fd G => fn_pro (k := 3) G sc_Book_is_lot (fun i => rfl) ?_) fun f fd G => G.binds fun _ _ _ _ _ _ us hl => match us, hl with | [_, _], _ => rfl
  rintro ⟨⟨⟨⟨ns, rs⟩, hb⟩, ss⟩, h1, h2⟩ f cdv A outer s H E hr
  replace hb : BkOk ns rs := hb
  replace h1 : ss.length ≤ 1000 := h1
  have nd := sc_Book_is_lot.nd
  have r40 := hb.r40
  have hd : sT ss = sL ss ∨ sT ss = sT ss := .inr rfl
  refine ss_ifD0 (JW.t (jw_or (jt_not (jt_val (i_tuple T (jv 1) ⟨_, rfl⟩))) fun _ => jw_or1 (jt_not (jt_val (jd_f F1 ⟨sT ss, nq_strs T hd h1 h2⟩ hr (jac (jv 1) jan) (hp := by rintro _ rfl; rw [namesD_strs hd])))))) (fun h => ss_retD j_bl ?_) fun h => ?_
  · show D.bl false = .bl (isLot rs ss)
    unfold isLot
    rw [show (ss.all nm && decide ss.Nodup) = false from g5 h]
    rfl
  · have hn : Nms ss := .of (g2 h).2
    refine ss_retD (jd_eqSL (ss := ss) (zs := (rs.map Prod.fst).filter fun m => decide (m ∈ ss)) hr.units (jd_list T (jv 1)) (j_eq (jd_lc (own := [("mark", 2)]) (rs.map Prod.fst) D.str (fun m => decide (m ∈ ss)) D.str rfl nd (blkOk_by (by kernel_rfl)) (ji (d := sL (rs.map Prod.fst)) (jd_me0 F2 ⟨(ns, rs), hb⟩ (jv 0) T.kB (hr.mono (by decide)) rfl rfl) (by rw [List.length_map, List.length_map]; omega) (.inl rfl)) fun m _ => ⟨_, fun _ _ _ _ _ => jg_name (i := 2) nd rfl (by first | exact Or.inl rfl | exact Or.inr rfl) (by decide), fun _ _ _ _ _ => jf_one (jt_inS (jv 2) (jv 1)), fun _ _ _ _ _ _ => jv 2⟩) rfl) hn.sok (fun s hs => hb.m.sok s (List.mem_filter.mp hs).1)) ?_
    show D.bl _ = .bl (isLot rs ss)
    unfold isLot
    rw [hn.b, Bool.true_and]
abbrev s_Book_add : Stmt := inClass (top 73) 13
theorem sc_Book_add : FnScope ["self", "record", "records"] ["self", "record"] (defScope s_Book_add) := ⟨rfl, rfl, rfl, by decide +kernel, rfl, by decide +kernel, by decide +kernel⟩
theorem srt_srt (ss : List Str) : srt (srt ss) = srt ss := srt_congr (srt_perm ss)
abbrev P_badd : Sp := Pro (ι := {p : List Str × List Rc × Rc // BkOk p.1 (p.2.1 ++ [p.2.2])}) (fun i => [bookI T i.1.1 i.1.2.1, rcI T i.1.2.2]) fun i d => d = bookI T i.1.1 (i.1.2.1 ++ [i.1.2.2])
structure Da (K : PySem.W.Frag) (C : Addr) (qual : Str) (st : Stmt) : Prop where
  ex : ∃ f fd rc, Fun K "__add__" qual st f fd ∧ Adds K C f rc
structure As (P : Program) (w : World) (K : PySem.W.Frag) (mg : Str → Option Value) (base : Heap) (C : Addr) (k : Nat) (sp : Sp) : Prop where
  ex : ∃ f rc, Adds K C f rc ∧ FnR P w K mg base CX0 k f sp
theorem BkOk.init {ns : List Str} {rs : List Rc} {r : Rc} (h : BkOk ns (rs ++ [r])) : BkOk ns rs :=
  ⟨h.n, h.n0, h.n7, ⟨fun s hs => h.m.ok s (by rw [List.map_append]; exact List.mem_append_left _ hs), by have := h.m.nd; rw [List.map_append] at this; exact (List.nodup_append.mp this).1⟩, by have := h.r40; rw [List.length_append] at this; omega, fun r' hr => h.rw r' (List.mem_append_left _ hr), fun r' hr => h.cov r' (List.mem_append_left _ hr), by have := h.fw; rw [List.flatMap_append, List.length_append] at this; omega, by have := h.fw2; rw [List.flatMap_append, List.length_append] at this; omega⟩
theorem BkOk.srt {ns : List Str} {rs : List Rc} (h : BkOk ns rs) : BkOk (srt ns) rs :=
  ⟨srt_nms h.n, by rw [srt_len]; exact h.n0, by rw [srt_len]; exact h.n7, h.m, h.r40, h.rw, fun r hr s hs => srt_mem.mpr (h.cov r hr s hs), h.fw, h.fw2⟩
theorem F_badd (dn : Da K T.cB "Book.__add__" s_Book_add) (F1 : Md P w K mg base T.cB "records" 1 (P_records T)) (F2 : Mc P w K mg base T.cB 4 (P_Book T)) : As P w K mg base T.cB 6 (P_badd T) := by
  obtain ⟨f, fd, rc, G, hm⟩ := dn.ex
  refine ⟨f, rc, hm, fnok_r (fn_pro (k := 5) G sc_Book_add (fun i => rfl) ?_) (G.binds fun _ _ _ _ _ _ us hl => match us, hl with | [_, _], _ => rfl)⟩
  rintro ⟨⟨ns, rs, r⟩, hb⟩ f cdv A outer s H E hr
  replace hb : BkOk ns (rs ++ [r]) := hb
  have hi := hb.init
  have r40 := hi.r40
  have nd := sc_Book_add.nd
  have r1 : NoAttr K T.cB "reasons" := T.nB "reasons" (by decide)
  refine ss_setD (d := .lst ((rs ++ [r]).map (rcI T))) 2 nd (j_eq (jd_lst (ds := rs.map (rcI T) ++ [rcI T r]) (jas (jd_me0 F1 ⟨(ns, rs), hi⟩ (jv 0) T.kB (hr.mono (by decide)) rfl rfl) (jac (jv 1) jan) (.inl rfl)) (by rw [List.length_append, List.length_map, sizeLine_eq, List.length_singleton]; omega)) (by rw [List.map_append]; rfl)) ?_
  refine ss_ret (jd_mkS2 F2 ⟨(true, srt ns, rs ++ [r]), hb.srt⟩ hr T.gB (jac (jd_fld (jv 0) T.kB r1 rfl) (jas1 (jv 2)))) ?_
  rintro _ rfl
  show bookI T (srt ns) (rs ++ [r]) = bookI T ns (rs ++ [r])
  unfold bookI
  rw [srt_srt]
abbrev s_unborne : Stmt := top 52
theorem sc_unborne : FnScope ["book", "order", "mark", "row"] ["book", "order"] (defScope s_unborne) := ⟨rfl, rfl, rfl, by decide +kernel, rfl, by decide +kernel, by decide +kernel⟩
/-- a book and an order of its reasons -/
abbrev Bo : Type := {p : Bq × List Str // OrOk p.2 ∧ srt p.2 = srt p.1.1.1}
def unborne (rs : List Rc) (o : List Str) : List Str := (rs.filter fun r => !bears o r.2).map Prod.fst
abbrev P_unborne : Sp := Pro (ι := Bo) (fun i => [i.1.1.d T, ordI T i.1.2]) fun i d => d = sT (unborne i.1.1.1.2 i.1.2)
theorem cov_of {ns o : List Str} {r : Rw} (h : srt o = srt ns) (c : Cov ns r) : Cov o r := fun s hs => srt_mem.mp (h ▸ srt_mem.mpr (c s hs))
theorem F_unborne (dn : Dn K mg "unborne" s_unborne) (F1 : Md P w K mg base T.cB "records" 1 (P_records T)) (F2 : Md P w K mg base T.cO "bears" 2 (P_bears T)) : Fd P w K mg base "unborne" 3 (P_unborne T) := by
  refine dn.fd (fun f fd G => fn_pro (k := 2) G sc_unborne (fun i => rfl) ?_) fun f fd G => G.binds fun _ _ _ _ _ _ us hl => match us, hl with | [_, _], _ => rfl
  rintro ⟨⟨⟨⟨ns, rs⟩, hb⟩, o⟩, ho, he⟩ f cdv A outer s H E hr
  replace hb : BkOk ns rs := hb
  replace ho : OrOk o := ho
  replace he : srt o = srt ns := he
  have nd := sc_unborne.nd
  have r40 := hb.r40
  have b1 : NoAttr K T.cB "reasons" := T.nB "reasons" (by decide)
  have o1 : NoAttr K T.cO "reasons" := T.nO "reasons" (by decide)
  refine ss_ifNo (jt_neST (ss := srt o) (zs := srt ns) hr.units (jd_fld (jv 1) T.kO o1 rfl) (jd_fld (jv 0) T.kB b1 rfl) (srt_nms ho.n).sok (srt_nms hb.n).sok) (by rw [decide_eq_true he]; rfl) ?_
  refine ss_retD (jd_tuple T (jd_lc (own := [("mark", 2), ("row", 3)]) rs (rcI T) (fun r => !bears o r.2) (fun r => .str r.1) rfl nd (blkOk_by (by kernel_rfl)) (ji (d := .lst (rs.map (rcI T))) (jd_me0 F1 ⟨(ns, rs), hb⟩ (jv 0) T.kB (hr.mono (by decide)) rfl rfl) (by rw [List.length_map]; omega) (.inl rfl)) fun r hm => ⟨_, fun _ _ _ _ _ => jg_two (i := 2) (j := 3) rfl nd rfl (by first | exact Or.inl rfl | exact Or.inr rfl) rfl (by first | exact Or.inl rfl | exact Or.inr rfl) (by decide) (by decide) rfl, fun _ _ _ _ _ => jf_one (jt_not (jt_val (jd_me F2 ⟨(o, r.2), ho, hb.rw r hm, cov_of he (hb.cov r hm)⟩ (jv 1) T.kO hr (jac (jv 3) jan) rfl rfl))), fun _ _ _ _ _ _ => jv 2⟩)) ?_
  show D.tup _ = D.tup ((unborne rs o).map D.str)
  unfold unborne
  rw [List.map_map]
  rfl
end
end FD
end
section
set_option maxHeartbeats 2000000
/-! paperflaws.py -/
namespace FD
open PySem PySem.Spec PyProof.Rows L2
/-- a flaw: the word and the spot -/
abbrev Fl : Type := Option (Str × Option Str)
def flD : Fl → D
  | none => .non
  | some (a, b) => .tup [.str a, oStr b]
def fIdle (ls : List Rc) : Fl := (ls.find? fun r => idle r.2).map fun r => ("idle", some r.1)
def against (rows : List Rw) : List Str := rows.flatMap fun r => r.2
def fFor (rows : List Rw) (ans : List Str) : Fl := (srt (rows.flatMap fun r => r.1.filter fun s => !decide (s ∈ ans))).head?.map fun s => ("for", some s)
def fUnb (rs : List Rc) (o : List Str) : Fl := (unborne rs o).head?.map fun m => ("unborne", some m)
def fStuck (ls : List Rc) : Fl := if ls = [] then some ("empty", none) else match fIdle ls with
  | some f => some f
  | none => fFor (ls.map Prod.snd) (against (ls.map Prod.snd))
def fGrounds (r : Rw) (ls : List Rc) : Fl := match fIdle ls with
  | some f => some f
  | none => match r.2.find? fun s => !decide (s ∈ against (ls.map Prod.snd)) with
    | some s => some ("against", some s)
    | none => fFor (ls.map Prod.snd) (against (ls.map Prod.snd) ++ r.1)
theorem find_take {α : Type} {xs : List α} {p : α → Bool} {i : Nat} {x : α} (h : xs[i]? = some x) (hn : ∀ y ∈ xs.take i, p y = false) (hp : p x = true) : xs.find? p = some x := by
  have hl : i < xs.length := by
    rcases Nat.lt_or_ge i xs.length with h1 | h1
    · exact h1
    · rw [List.getElem?_eq_none h1] at h; cases h
  rw [List.find?_eq_some_iff_getElem]
  refine ⟨hp, i, hl, ?_, fun j hj => ?_⟩
  · rw [List.getElem?_eq_getElem hl] at h
    exact Option.some.inj h
  · have := hn (xs[j]'(by omega)) (List.mem_take_iff_getElem.mpr ⟨j, by omega, rfl⟩)
    simpa using this
theorem take_more {α : Type} {xs : List α} {p : α → Bool} {i : Nat} {x : α} (h : xs[i]? = some x) (hn : ∀ y ∈ xs.take i, p y = false) (hp : p x = false) : ∀ y ∈ xs.take (i + 1), p y = false := by
  have hl : i < xs.length := by
    rcases Nat.lt_or_ge i xs.length with h1 | h1
    · exact h1
    · rw [List.getElem?_eq_none h1] at h; cases h
  rw [List.getElem?_eq_getElem hl] at h
  cases h
  intro y hy
  rw [List.take_succ_eq_append_getElem hl, List.mem_append, List.mem_singleton] at hy
  rcases hy with hy | rfl
  · exact hn y hy
  · exact hp
theorem find_none {α : Type} {xs : List α} {p : α → Bool} (hn : ∀ y ∈ xs, p y = false) : xs.find? p = none := by
  rw [List.find?_eq_none]
  intro x hx
  rw [hn x hx]
  decide
theorem at0 {x : D} {xs : List D} : atI (x :: xs) 0 = some x := by simp [atI, ixN]
/-- a part of a book's records -/
structure SbOk (ls : List Rc) : Prop where
  rw : ∀ r ∈ ls, RwOk r.2
  r40 : ls.length ≤ 40
  fw : (ls.flatMap fun r => r.2.1).length < 64
  fw2 : (ls.flatMap fun r => r.2.2).length < 64
theorem flatMap_len_le {α β : Type} (f : α → List β) {xs ys : List α} (h : xs.Sublist ys) : (xs.flatMap f).length ≤ (ys.flatMap f).length := by
  induction h with
  | slnil => exact Nat.le_refl _
  | cons a _ ih => rw [List.flatMap_cons, List.length_append]; omega
  | cons_cons a _ ih => rw [List.flatMap_cons, List.flatMap_cons, List.length_append, List.length_append]; omega
theorem BkOk.sb {ns : List Str} {rs ls : List Rc} (h : BkOk ns rs) (s : ls.Sublist rs) : SbOk ls :=
  ⟨fun r hr => h.rw r (s.subset hr), Nat.le_trans s.length_le h.r40, Nat.lt_of_le_of_lt (flatMap_len_le _ s) h.fw, Nat.lt_of_le_of_lt (flatMap_len_le _ s) h.fw2⟩
section
variable {P : Program} {w : World} {K : PySem.W.Frag} {mg : Str → Option Value} {base : Heap} (T : Mo K mg)
abbrev s_lot_records : Stmt := top 92
theorem sc_lot_records : FnScope ["book", "lot", "mark"] ["book", "lot"] (defScope s_lot_records) := ⟨rfl, rfl, rfl, by decide +kernel, rfl, by decide +kernel, by decide +kernel⟩
/-- a book and a lot of it -/
abbrev Bl_ : Type := {p : Bq × List Rc // p.2.Sublist p.1.1.2}
abbrev P_lot_records : Sp := Pro (ι := Bl_) (fun i => [i.1.1.d T, sT (i.1.2.map Prod.fst)]) fun i d => d = .lst (i.1.2.map (rcI T))
theorem F_lot_records (dn : Dn K mg "lot_records" s_lot_records) (F1 : Md P w K mg base T.cB "row" 4 (P_brow T)) : Fd P w K mg base "lot_records" 5 (P_lot_records T) := by
  refine dn.fd (fun f fd G => fn_pro (k := 4) G sc_lot_records (fun i => rfl) ?_) fun f fd G => G.binds fun _ _ _ _ _ _ us hl => match us, hl with | [_, _], _ => rfl
  rintro ⟨⟨⟨⟨ns, rs⟩, hb⟩, ls⟩, hs⟩ f cdv A outer s H E hr
  replace hb : BkOk ns rs := hb
  replace hs : ls.Sublist rs := hs
  have nd := sc_lot_records.nd
  have sb := hb.sb hs
  have r40 := sb.r40
  refine ss_retD (jd_lcm (own := [("mark", 2)]) ls (fun r => D.str r.1) (rcI T) rfl nd (blkOk_by (by kernel_rfl)) (ji (ds := ls.map fun r => D.str r.1) (jv 1) (by rw [List.length_map]; omega) (.inr (by show D.tup _ = _; rw [List.map_map]; rfl))) fun r hm => ⟨_, fun _ _ _ _ _ => jg_name (i := 2) nd rfl (by first | exact Or.inl rfl | exact Or.inr rfl) (by decide), fun _ _ _ _ _ => jd_tup (jac (jv 2) (jac (jd_me F1 ⟨(⟨(ns, rs), hb⟩, r), hs.subset hm⟩ (jv 0) T.kB hr (jac (jv 2) jan) rfl rfl) jan))⟩) rfl
abbrev s_against_any : Stmt := top 93
theorem sc_against_any : FnScope ["rows", "row", "reason"] ["rows"] (defScope s_against_any) := ⟨rfl, rfl, rfl, by decide +kernel, rfl, by decide +kernel, by decide +kernel⟩
abbrev P_against : Sp := Pro (ι := {rows : List Rw // (∀ r ∈ rows, RwOk r) ∧ rows.length ≤ 40}) (fun i => [.lst (i.1.map (rowI T))]) fun i d => d = sL (against i.1)
theorem F_against (dn : Dn K mg "against_any" s_against_any) : Fd P w K mg base "against_any" 1 (P_against T) := by
  refine dn.fd (fun f fd G => fn_pro (k := 0) G sc_against_any (fun i => rfl) ?_) fun f fd G => G.binds fun _ _ _ _ _ _ us hl => match us, hl with | [_], _ => rfl
  rintro ⟨rows, h1, h2⟩ f cdv A outer s H E hr
  have nd := sc_against_any.nd
  have nC : NoAttr K T.cR "con" := T.nR "con" (by decide)
  refine ss_retD (jd_lc2 (own := [("row", 1), ("reason", 2)]) (vs1 := [2]) rows (rowI T) (fun r => r.2) (fun _ s => D.str s) (fun _ _ => true) (fun _ s => D.str s) (fun r hm => Nat.le_trans (h1 r hm).f2 (by decide)) (by omega) rfl nd (blkOk_by (by kernel_rfl)) (by decide) (ji (ds := rows.map (rowI T)) (jv 0) (by rw [List.length_map]; omega))
    fun r hm => ⟨_, by rfl, fun _ _ _ _ _ => jg_name (i := 1) nd rfl (by first | exact Or.inl rfl | exact Or.inr rfl) (by decide), fun _ _ _ _ _ => ji (ds := r.2.map D.str) (jd_fld (jv 1) T.kR nC rfl) (by rw [List.length_map]; exact Nat.le_trans (h1 r hm).f2 (by decide)) (.inr rfl), fun s _ => ⟨_, fun _ _ _ _ _ => jg_name (i := 2) nd rfl (by first | exact Or.inl rfl | exact Or.inr rfl) (by decide), fun _ _ _ _ _ => jf_nil, fun _ _ _ _ _ _ => jv 2⟩⟩) ?_
  show D.lst _ = D.lst ((against rows).map D.str)
  unfold against
  rw [List.map_flatMap]
  congr 2
  funext r
  rw [filter_tt]
abbrev s_first_idle : Stmt := top 94
theorem sc_first_idle : FnScope ["records", "mark", "row"] ["records"] (defScope s_first_idle) := ⟨rfl, rfl, rfl, by decide +kernel, rfl, by decide +kernel, by decide +kernel⟩
abbrev P_first_idle : Sp := Pro (ι := {ls : List Rc // SbOk ls}) (fun i => [.lst (i.1.map (rcI T))]) fun i d => d = flD (fIdle i.1)
theorem F_first_idle (dn : Dn K mg "first_idle" s_first_idle) (F1 : Pt P w K mg base T.cR "idle" 1 (P_idle T)) : Fd P w K mg base "first_idle" 3 (P_first_idle T) := by
  refine dn.fd (fun f fd G => fn_pro (k := 2) G sc_first_idle (fun i => rfl) ?_) fun f fd G => G.binds fun _ _ _ _ _ _ us hl => match us, hl with | [_], _ => rfl
  rintro ⟨ls, hb⟩ f cdv A outer s H E hr
  have nd := sc_first_idle.nd
  have r40 := hb.r40
  refine ss_for [1, 2] rfl PassesOwn.never (ji (ds := ls.map (rcI T)) (jv 0) (by rw [List.length_map]; omega)) (fun its i ρ1 => (∀ r ∈ ls.take i, idle r.2 = false) ∧ ∃ a b, ρ1 = [.ro (.lst (ls.map (rcI T))), a, b]) (fun its e => ⟨fun r h => by simp at h, .any, .any, rfl⟩) ?_ ?_
  · rintro _ i d ρ1 rfl hd ⟨hn, a, b, rfl⟩
    obtain ⟨r, hrs, rfl⟩ := map_get hd
    refine ⟨_, jg_two (i := 1) (j := 2) rfl nd rfl (Or.inl rfl) rfl (Or.inl rfl) (by decide) (by decide) rfl, ?_⟩
    refine ss_ifD0 (jt_val (jd_pr F1 ⟨r.2, hb.rw r (List.mem_of_getElem? hrs)⟩ (jv 2) T.kR hr rfl)) (fun h => ss_retD (jd_tup (jac j_str (jac (jv 1) jan))) ?_) fun h => ss_nil ⟨take_more hrs hn h, _, _, rfl⟩
    show _ = flD (fIdle ls)
    unfold fIdle
    rw [find_take hrs hn h]
    rfl
  · rintro _ ρ1 rfl ⟨hn, a, b, rfl⟩
    refine ss_retD j_non ?_
    show _ = flD (fIdle ls)
    unfold fIdle
    rw [List.length_map, List.take_length] at hn
    rw [find_none hn]
    rfl
abbrev s_first_for : Stmt := top 95
theorem sc_first_for : FnScope ["rows", "answered", "left", "row", "reason"] ["rows", "answered"] (defScope s_first_for) := ⟨rfl, rfl, rfl, by decide +kernel, rfl, by decide +kernel, by decide +kernel⟩
theorem flatMap_filter_le {α β : Type} (f : α → List β) (p : α → β → Bool) (xs : List α) : (xs.flatMap fun x => (f x).filter (p x)).length ≤ (xs.flatMap f).length := by
  induction xs with
  | nil => exact Nat.le_refl _
  | cons a t ih =>
    rw [List.flatMap_cons, List.flatMap_cons, List.length_append, List.length_append]
    have := List.length_filter_le (p a) (f a)
    omega
abbrev P_first_for : Sp := Pro (ι := {p : List Rw × List Str // (∀ r ∈ p.1, RwOk r) ∧ p.1.length ≤ 40 ∧ (p.1.flatMap fun r => r.1).length < 64}) (fun i => [.lst (i.1.1.map (rowI T)), sL i.1.2]) fun i d => d = flD (fFor i.1.1 i.1.2)
theorem F_first_for (dn : Dn K mg "first_for" s_first_for) : Fd P w K mg base "first_for" 1 (P_first_for T) := by
  refine dn.fd (fun f fd G => fn_pro (k := 0) G sc_first_for (fun i => rfl) ?_) fun f fd G => G.binds fun _ _ _ _ _ _ us hl => match us, hl with | [_, _], _ => rfl
  rintro ⟨⟨rows, ans⟩, h1, h2, h3⟩ f cdv A outer s H E hr
  replace h1 : ∀ r ∈ rows, RwOk r := h1
  replace h2 : rows.length ≤ 40 := h2
  replace h3 : (rows.flatMap fun r => r.1).length < 64 := h3
  have nd := sc_first_for.nd
  have nP : NoAttr K T.cR "pro" := T.nR "pro" (by decide)
  let xs := rows.flatMap fun r => r.1.filter fun s => !decide (s ∈ ans)
  have hx : xs.length < 64 := Nat.lt_of_le_of_lt (flatMap_filter_le (fun r : Rw => r.1) (fun _ s => !decide (s ∈ ans)) rows) h3
  refine ss_setD (d := sL (srt xs)) 2 nd (jd_sorted T (ss := xs) (j_eq (d2 := sL xs) (jd_lc2 (own := [("row", 3), ("reason", 4)]) (vs1 := [4]) rows (rowI T) (fun r => r.1) (fun _ s => D.str s) (fun _ s => !decide (s ∈ ans)) (fun _ s => D.str s) (fun r hm => Nat.le_trans (h1 r hm).f1 (by decide)) (by omega) rfl nd (blkOk_by (by kernel_rfl)) (by decide) (ji (ds := rows.map (rowI T)) (jv 0) (by rw [List.length_map]; omega))
    fun r hm => ⟨_, by rfl, fun _ _ _ _ _ => jg_name (i := 3) nd rfl (by first | exact Or.inl rfl | exact Or.inr rfl) (by decide), fun _ _ _ _ _ => ji (ds := r.1.map D.str) (jd_fld (jv 3) T.kR nP rfl) (by rw [List.length_map]; exact Nat.le_trans (h1 r hm).f1 (by decide)) (.inr rfl), fun s _ => ⟨_, fun _ _ _ _ _ => jg_name (i := 4) nd rfl (by first | exact Or.inl rfl | exact Or.inr rfl) (by decide), fun _ _ _ _ _ => jf_one (jt_ninS (ss := ans) (jv 4) (jv 1) (.inl rfl)), fun _ _ _ _ _ _ => jv 4⟩⟩) ?_) hx (.inl rfl)) ?_
  · show D.lst _ = D.lst (xs.map D.str)
    rw [List.map_flatMap]
  · refine ss_ret (P := fun d => d = flD (fFor rows ans)) (j_if (jt_seq (jv 2) (ds := (srt xs).map D.str) (.inl rfl)) (fun h => ?_) fun h => ?_) fun d h => h
    · cases he : srt xs with
      | nil => rw [he] at h; cases h
      | cons s t =>
        refine j_eq (d := .tup [.str "for", .str s]) (jd_tup (jac j_str (jac (jd_ix (ds := (s :: t).map D.str) (jv 2) j_int at0 (.inl rfl)) jan))) ?_
        show _ = flD (fFor rows ans)
        unfold fFor
        rw [show srt (rows.flatMap fun r => r.1.filter fun s => !decide (s ∈ ans)) = srt xs from rfl, he]
        rfl
    · cases he : srt xs with
      | cons s t => rw [he] at h; cases h
      | nil =>
        refine j_eq j_non ?_
        show _ = flD (fFor rows ans)
        unfold fFor
        rw [show srt (rows.flatMap fun r => r.1.filter fun s => !decide (s ∈ ans)) = srt xs from rfl, he]
        rfl
abbrev s_first_unborne : Stmt := top 96
theorem sc_first_unborne : FnScope ["book", "order", "lot"] ["book", "order"] (defScope s_first_unborne) := ⟨rfl, rfl, rfl, by decide +kernel, rfl, by decide +kernel, by decide +kernel⟩
abbrev P_first_unborne : Sp := Pro (ι := Bo) (fun i => [i.1.1.d T, ordI T i.1.2]) fun i d => d = flD (fUnb i.1.1.1.2 i.1.2)
theorem F_first_unborne (dn : Dn K mg "first_unborne" s_first_unborne) (F1 : Fd P w K mg base "unborne" 3 (P_unborne T)) : Fd P w K mg base "first_unborne" 4 (P_first_unborne T) := by
  refine dn.fd (fun f fd G => fn_pro (k := 3) G sc_first_unborne (fun i => rfl) ?_) fun f fd G => G.binds fun _ _ _ _ _ _ us hl => match us, hl with | [_, _], _ => rfl
  rintro ⟨⟨⟨⟨ns, rs⟩, hb⟩, o⟩, ho, he⟩ f cdv A outer s H E hr
  have nd := sc_first_unborne.nd
  refine ss_setD (d := sT (unborne rs o)) 2 nd (jd_f F1 ⟨(⟨(ns, rs), hb⟩, o), ho, he⟩ hr (jac (jv 0) (jac (jv 1) jan))) ?_
  refine ss_ret (P := fun d => d = flD (fUnb rs o)) (j_if (jt_seq (jv 2) (ds := (unborne rs o).map D.str) (.inr rfl)) (fun h => ?_) fun h => ?_) fun d h => h
  · cases hu : unborne rs o with
    | nil => rw [hu] at h; cases h
    | cons s t =>
      refine j_eq (d := .tup [.str "unborne", .str s]) (jd_tup (jac j_str (jac (jd_ix (ds := (s :: t).map D.str) (jv 2) j_int at0 (.inr rfl)) jan))) ?_
      unfold fUnb
      rw [hu]
      rfl
  · cases hu : unborne rs o with
    | cons s t => rw [hu] at h; cases h
    | nil =>
      refine j_eq j_non ?_
      unfold fUnb
      rw [hu]
      rfl
end
end FD
end
section
set_option maxHeartbeats 2000000
/-! paperflaws.py, on -/
namespace FD
open PySem PySem.Spec PyProof.Rows L2
theorem flD_isN (f : Fl) : (flD f).isN = f.isNone := by cases f <;> rfl
theorem snd_flat (ls : List Rc) : ((ls.map Prod.snd).flatMap fun r => r.1) = ls.flatMap fun r => r.2.1 := by rw [List.flatMap_map]
section
variable {P : Program} {w : World} {K : PySem.W.Frag} {mg : Str → Option Value} {base : Heap} (T : Mo K mg)
abbrev s_stuck_flaw : Stmt := top 97
theorem sc_stuck_flaw : FnScope ["records", "more", "rows", "found", "mark", "row"] ["records", "more"] (defScope s_stuck_flaw) := ⟨rfl, rfl, rfl, by decide +kernel, rfl, by decide +kernel, by decide +kernel⟩
abbrev P_stuck_flaw : Sp := Pro (ι := {ls : List Rc // SbOk ls}) (fun i => [.lst (i.1.map (rcI T)), .lst []]) fun i d => d = flD (fStuck i.1)
theorem F_stuck_flaw (dn : Dn K mg "stuck_flaw" s_stuck_flaw) (F1 : Fd P w K mg base "first_idle" 3 (P_first_idle T)) (F2 : Fd P w K mg base "against_any" 1 (P_against T)) (F3 : Fd P w K mg base "first_for" 1 (P_first_for T)) : Fd P w K mg base "stuck_flaw" 4 (P_stuck_flaw T) := by
  refine dn.fd (fun f fd G => fn_pro (k := 3) G sc_stuck_flaw (fun i => rfl) ?_) fun f fd G => G.binds fun _ _ _ _ _ _ us hl => match us, hl with | [_, _], _ => rfl
  rintro ⟨ls, hb⟩ f cdv A outer s H E hr
  have nd := sc_stuck_flaw.nd
  have r40 := hb.r40
  have hrw : ∀ r ∈ ls.map Prod.snd, RwOk r := fun r hm => by
    obtain ⟨x, hx, rfl⟩ := List.mem_map.mp hm
    exact hb.rw x hx
  have hln : (ls.map Prod.snd).length ≤ 40 := by rw [List.length_map]; exact r40
  refine ss_setD (d := .lst ((ls.map Prod.snd).map (rowI T))) 2 nd (j_eq (jd_catL (jd_lcm (own := [("mark", 4), ("row", 5)]) ls (rcI T) (fun r => rowI T r.2) rfl nd (blkOk_by (by kernel_rfl)) (ji (ds := ls.map (rcI T)) (jv 0) (by rw [List.length_map]; omega)) fun r hm => ⟨_, fun _ _ _ _ _ => jg_two (i := 4) (j := 5) rfl nd rfl (by first | exact Or.inl rfl | exact Or.inr rfl) rfl (by first | exact Or.inl rfl | exact Or.inr rfl) (by decide) (by decide) rfl, fun _ _ _ _ _ => jv 5⟩) (jv 1) (by rw [List.length_map, sizeLine_eq]; simp; omega)) (by rw [List.append_nil, List.map_map]; rfl)) ?_
  refine ss_ifD0 (jt_not (jt_seq (jv 2) (ds := (ls.map Prod.snd).map (rowI T)) (.inl rfl))) (fun h => ss_retD (jd_tup (jac j_str (jac j_non jan))) ?_) fun h => ?_
  · have e : ls = [] := by
      cases ls with
      | nil => rfl
      | cons a t => cases h
    show _ = flD (fStuck ls)
    rw [e]
    rfl
  · have e : ls ≠ [] := by
      rintro rfl
      cases h
    refine ss_setD (d := flD (fIdle ls)) 3 nd (jd_f F1 ⟨ls, hb⟩ hr (jac (jv 0) jan)) ?_
    refine ss_ifD0 (jt_notN (jv 3)) (fun h => ss_retD (jv 3) ?_) fun h => ?_
    · show _ = flD (fStuck ls)
      unfold fStuck
      rw [if_neg e]
      rw [flD_isN] at h
      cases hi : fIdle ls with
      | none => rw [hi] at h; cases h
      | some f => rfl
    · refine ss_retD (jd_f F3 ⟨(ls.map Prod.snd, against (ls.map Prod.snd)), hrw, hln, by rw [snd_flat]; exact hb.fw⟩ (hr.mono (by decide)) (jac (jv 2) (jac (jd_f F2 ⟨ls.map Prod.snd, hrw, hln⟩ (hr.mono (by decide)) (jac (jv 2) jan)) jan))) ?_
      show _ = flD (fStuck ls)
      unfold fStuck
      rw [if_neg e]
      rw [flD_isN] at h
      cases hi : fIdle ls with
      | none => rfl
      | some f => rw [hi] at h; cases h
abbrev s_grounds_flaw : Stmt := top 98
theorem sc_grounds_flaw : FnScope ["book", "row", "lot", "records", "found", "rows", "against", "reason", "mark", "held"] ["book", "row", "lot"] (defScope s_grounds_flaw) := ⟨rfl, rfl, rfl, by decide +kernel, rfl, by decide +kernel, by decide +kernel⟩
abbrev P_grounds : Sp := Pro (ι := {p : Bl_ × Rw // RwOk p.2}) (fun i => [i.1.1.1.1.d T, rowI T i.1.2, sT (i.1.1.1.2.map Prod.fst)]) fun i d => d = flD (fGrounds i.1.2 i.1.1.1.2)
theorem F_grounds (dn : Dn K mg "grounds_flaw" s_grounds_flaw) (F0 : Fd P w K mg base "lot_records" 5 (P_lot_records T)) (F1 : Fd P w K mg base "first_idle" 3 (P_first_idle T)) (F2 : Fd P w K mg base "against_any" 1 (P_against T)) (F3 : Fd P w K mg base "first_for" 1 (P_first_for T)) : Fd P w K mg base "grounds_flaw" 6 (P_grounds T) := by
  refine dn.fd (fun f fd G => fn_pro (k := 5) G sc_grounds_flaw (fun i => rfl) ?_) fun f fd G => G.binds fun _ _ _ _ _ _ us hl => match us, hl with | [_, _, _], _ => rfl
  rintro ⟨⟨⟨⟨⟨⟨ns, rs⟩, hbk⟩, ls⟩, hs⟩, r⟩, hro⟩ f cdv A outer s H E hr
  replace hbk : BkOk ns rs := hbk
  replace hs : ls.Sublist rs := hs
  replace hro : RwOk r := hro
  have hb := hbk.sb hs
  have nd := sc_grounds_flaw.nd
  have r40 := hb.r40
  have nC : NoAttr K T.cR "con" := T.nR "con" (by decide)
  have nP : NoAttr K T.cR "pro" := T.nR "pro" (by decide)
  have hrw : ∀ r ∈ ls.map Prod.snd, RwOk r := fun r hm => by
    obtain ⟨x, hx, rfl⟩ := List.mem_map.mp hm
    exact hb.rw x hx
  have hln : (ls.map Prod.snd).length ≤ 40 := by rw [List.length_map]; exact r40
  refine ss_setD (d := .lst (ls.map (rcI T))) 3 nd (jd_f F0 ⟨(⟨(ns, rs), hbk⟩, ls), hs⟩ hr (jac (jv 0) (jac (jv 2) jan))) ?_
  refine ss_setD (d := flD (fIdle ls)) 4 nd (jd_f F1 ⟨ls, hb⟩ (hr.mono (by decide)) (jac (jv 3) jan)) ?_
  refine ss_ifD0 (jt_notN (jv 4)) (fun h => ss_retD (jv 4) ?_) fun h => ?_
  · show _ = flD (fGrounds r ls)
    unfold fGrounds
    rw [flD_isN] at h
    cases hi : fIdle ls with
    | none => rw [hi] at h; cases h
    | some f => rfl
  · have hi : fIdle ls = none := by
      rw [flD_isN] at h
      cases hi : fIdle ls with
      | none => rfl
      | some f => rw [hi] at h; cases h
    have goal : ∀ fl : Fl, fGrounds r ls = fl → ∀ d, d = flD fl → (poOf fun d => d = flD (fGrounds r ls)).R d := fun fl e d h => by rw [← e] at h; exact h
    let ag := against (ls.map Prod.snd)
    refine ss_setLc 5 (own := [("mark", 8), ("held", 9)]) (Pi := fun z => z = ls.map (rcI T)) rfl nd (blkOk_by (by kernel_rfl)) (ji (ds := ls.map (rcI T)) (jv 3) (by rw [List.length_map]; omega)) (fun its i acc => acc = (ls.take i).map fun r => rowI T r.2) (fun _ _ => rfl) ?_ ?_
    · rintro _ i d acc rfl hd rfl _
      obtain ⟨x, hx, rfl⟩ := map_get hd
      have hl : i < ls.length := by
        rcases Nat.lt_or_ge i ls.length with h1 | h1
        · exact h1
        · rw [List.getElem?_eq_none h1] at hx; cases hx
      refine ⟨_, fun z => z = true, fun z => z = rowI T x.2, fun _ _ _ _ _ => jg_two (i := 8) (j := 9) rfl nd rfl (by first | exact Or.inl rfl | exact Or.inr rfl) rfl (by first | exact Or.inl rfl | exact Or.inr rfl) (by decide) (by decide) rfl, fun _ _ _ _ _ => jf_nil, fun _ => ⟨fun _ _ _ _ _ => jv 9, ?_⟩, fun h => by cases h⟩
      rintro _ rfl
      rw [List.getElem?_eq_getElem hl] at hx
      cases hx
      rw [List.take_succ_eq_append_getElem hl, List.map_append]
      rfl
    rintro _ acc rfl rfl _
    rw [List.length_map, List.take_length]
    refine ss_frz 5 rfl ?_
    have e5 : (ls.map fun r => rowI T r.2) = (ls.map Prod.snd).map (rowI T) := by rw [List.map_map]; rfl
    rw [e5]
    refine ss_setD (d := sL ag) 6 nd (jd_f F2 ⟨ls.map Prod.snd, hrw, hln⟩ (hr.mono (by decide)) (jac (jv 5) jan)) ?_
    refine ss_for [7] rfl PassesOwn.never (ji (ds := r.2.map D.str) (jd_fld (jv 1) T.kR nC rfl) (by rw [List.length_map]; exact Nat.le_trans hro.f2 (by decide)) (.inr rfl)) (fun its i ρ1 => (∀ s ∈ r.2.take i, (!decide (s ∈ ag)) = false) ∧ ∃ a, ρ1 = [.ro (bookI T ns rs), .ro (rowI T r), .ro (sT (ls.map Prod.fst)), .ro (.lst (ls.map (rcI T))), .ro (flD (fIdle ls)), .ro (.lst ((ls.map Prod.snd).map (rowI T))), .ro (sL ag), a, .any, .any]) (fun its e => ⟨fun r h => by simp at h, .any, rfl⟩) ?_ ?_
    · rintro _ i d ρ1 rfl hd ⟨hn, a, rfl⟩
      obtain ⟨x, hx, rfl⟩ := map_get hd
      refine ⟨_, jg_name (i := 7) nd rfl (Or.inl rfl) (by decide), ?_⟩
      refine ss_ifD0 (jt_ninS (ss := ag) (jv 7) (jv 6) (.inl rfl)) (fun h => ss_retD (jd_tup (jac j_str (jac (jv 7) jan))) (goal (some ("against", some x)) ?_ _ rfl)) fun h => ss_nil ⟨take_more hx hn h, _, rfl⟩
      unfold fGrounds
      simp only [hi]
      rw [show r.2.find? (fun s => !decide (s ∈ against (ls.map Prod.snd))) = some x from find_take hx hn h]
    · rintro _ ρ1 rfl ⟨hn, a, rfl⟩
      rw [List.length_map, List.take_length] at hn
      have hag : (ag.map D.str ++ r.1.map D.str) = (ag ++ r.1).map D.str := by rw [List.map_append]
      have hzag : ag.length ≤ 40 * 8 := by
        have : ∀ rows : List Rw, (∀ r ∈ rows, RwOk r) → (against rows).length ≤ rows.length * 8 := by
          intro rows
          induction rows with
          | nil => intro _; exact Nat.le_refl _
          | cons a t ih =>
            intro h
            have h1 := ih fun r hr => h r (List.mem_cons_of_mem _ hr)
            have h2 := (h a List.mem_cons_self).f2
            show ((a :: t).flatMap fun r : Rw => r.2).length ≤ _
            rw [List.flatMap_cons, List.length_append, List.length_cons]
            unfold against at h1
            omega
        have h3 := this _ hrw
        show (against (ls.map Prod.snd)).length ≤ _
        omega
      refine ss_retD (jd_f F3 ⟨(ls.map Prod.snd, ag ++ r.1), hrw, hln, by rw [snd_flat]; exact hb.fw⟩ (hr.mono (by decide)) (jac (jv 5) (jac (j_eq (jd_lst (ds := ag.map D.str ++ r.1.map D.str) (jas (jv 6) (jas1 (jd_fld (jv 1) T.kR nP rfl) (.inr rfl)) (.inl rfl)) (by rw [List.length_append, List.length_map, List.length_map, sizeLine_eq]; have := hro.f1; omega)) (by rw [hag]; rfl)) jan))) (goal (fFor (ls.map Prod.snd) (ag ++ r.1)) ?_ _ rfl)
      unfold fGrounds
      simp only [hi]
      rw [show r.2.find? (fun s => !decide (s ∈ against (ls.map Prod.snd))) = none from find_none hn]
/-! the four flaws -/
abbrev s_flaw_fits : Stmt := top 99
theorem sc_flaw_fits : FnScope ["book", "value"] ["book", "value"] (defScope s_flaw_fits) := ⟨rfl, rfl, rfl, by decide +kernel, rfl, by decide +kernel, by decide +kernel⟩
abbrev P_flaw_fits : Sp := Pro (ι := Bo) (fun i => [i.1.1.d T, .tup [.str "fits", ordI T i.1.2]]) fun i d => d = flD (fUnb i.1.1.1.2 i.1.2)
theorem at1 {x y : D} {xs : List D} : atI (x :: y :: xs) 1 = some y := by
  unfold atI ixN
  rw [if_pos (by omega), if_pos (by simp; omega)]
  rfl
theorem at2 {x y z : D} {xs : List D} : atI (x :: y :: z :: xs) 2 = some z := by
  unfold atI ixN
  rw [if_pos (by omega), if_pos (by simp; omega)]
  rfl
theorem F_flaw_fits (dn : Dn K mg "flaw_fits" s_flaw_fits) (F1 : Fd P w K mg base "first_unborne" 4 (P_first_unborne T)) : Fd P w K mg base "flaw_fits" 5 (P_flaw_fits T) := by
  refine dn.fd (fun f fd G => fn_pro (k := 4) G sc_flaw_fits (fun i => rfl) ?_) fun f fd G => G.binds fun _ _ _ _ _ _ us hl => match us, hl with | [_, _], _ => rfl
  rintro i f cdv A outer s H E hr
  exact ss_retD (jd_f F1 i hr (jac (jv 0) (jac (jd_ix (jv 1) j_int at1 (.inr rfl)) jan))) rfl
abbrev s_flaw_stuck : Stmt := top 100
theorem sc_flaw_stuck : FnScope ["book", "value"] ["book", "value"] (defScope s_flaw_stuck) := ⟨rfl, rfl, rfl, by decide +kernel, rfl, by decide +kernel, by decide +kernel⟩
abbrev P_flaw_stuck : Sp := Pro (ι := Bl_) (fun i => [i.1.1.d T, .tup [.str "stuck", sT (i.1.2.map Prod.fst)]]) fun i d => d = flD (fStuck i.1.2)
theorem F_flaw_stuck (dn : Dn K mg "flaw_stuck" s_flaw_stuck) (F0 : Fd P w K mg base "lot_records" 5 (P_lot_records T)) (F1 : Fd P w K mg base "stuck_flaw" 4 (P_stuck_flaw T)) : Fd P w K mg base "flaw_stuck" 6 (P_flaw_stuck T) := by
  refine dn.fd (fun f fd G => fn_pro (k := 5) G sc_flaw_stuck (fun i => rfl) ?_) fun f fd G => G.binds fun _ _ _ _ _ _ us hl => match us, hl with | [_, _], _ => rfl
  rintro i f cdv A outer s H E hr
  exact ss_retD (jd_f F1 ⟨i.1.2, i.1.1.2.sb i.2⟩ (hr.mono (by decide)) (jac (jd_f F0 i hr (jac (jv 0) (jac (jd_ix (jv 1) j_int at1 (.inr rfl)) jan))) (jac (jd_lst jan) jan))) rfl
abbrev s_flaw_follows : Stmt := top 101
theorem sc_flaw_follows : FnScope ["book", "value"] ["book", "value"] (defScope s_flaw_follows) := ⟨rfl, rfl, rfl, by decide +kernel, rfl, by decide +kernel, by decide +kernel⟩
abbrev P_flaw_follows : Sp := Pro (ι := {p : Bl_ × Rw // RwOk p.2}) (fun i => [i.1.1.1.1.d T, .tup [.str "follows", rowI T i.1.2, sT (i.1.1.1.2.map Prod.fst)]]) fun i d => d = flD (fGrounds i.1.2 i.1.1.1.2)
theorem F_flaw_follows (dn : Dn K mg "flaw_follows" s_flaw_follows) (F1 : Fd P w K mg base "grounds_flaw" 6 (P_grounds T)) : Fd P w K mg base "flaw_follows" 7 (P_flaw_follows T) := by
  refine dn.fd (fun f fd G => fn_pro (k := 6) G sc_flaw_follows (fun i => rfl) ?_) fun f fd G => G.binds fun _ _ _ _ _ _ us hl => match us, hl with | [_, _], _ => rfl
  rintro i f cdv A outer s H E hr
  exact ss_retD (jd_f F1 i hr (jac (jv 0) (jac (jd_ix (jv 1) j_int at1 (.inr rfl)) (jac (jd_ix (jv 1) j_int at2 (.inr rfl)) jan)))) rfl
abbrev s_flaw_open : Stmt := top 102
theorem sc_flaw_open : FnScope ["book", "value", "found", "row", "order"] ["book", "value"] (defScope s_flaw_open) := ⟨rfl, rfl, rfl, by decide +kernel, rfl, by decide +kernel, by decide +kernel⟩
def fOpen (rs : List Rc) (r : Rw) (o : List Str) : Fl := if (fUnb rs o).isNone && bears o r then some ("borne", none) else fUnb rs o
abbrev P_flaw_open : Sp := Pro (ι := {p : Bo × Rw // RwOk p.2 ∧ Cov p.1.1.1.1.1 p.2}) (fun i => [i.1.1.1.1.d T, .tup [.str "open", rowI T i.1.2, ordI T i.1.1.1.2]]) fun i d => d = flD (fOpen i.1.1.1.1.1.2 i.1.2 i.1.1.1.2)
theorem F_flaw_open (dn : Dn K mg "flaw_open" s_flaw_open) (F1 : Fd P w K mg base "first_unborne" 4 (P_first_unborne T)) (F2 : Md P w K mg base T.cO "bears" 2 (P_bears T)) : Fd P w K mg base "flaw_open" 5 (P_flaw_open T) := by
  refine dn.fd (fun f fd G => fn_pro (k := 4) G sc_flaw_open (fun i => rfl) ?_) fun f fd G => G.binds fun _ _ _ _ _ _ us hl => match us, hl with | [_, _], _ => rfl
  rintro ⟨⟨⟨⟨⟨⟨ns, rs⟩, hb⟩, o⟩, ho, he⟩, r⟩, hro, hcov⟩ f cdv A outer s H E hr
  replace hb : BkOk ns rs := hb
  replace ho : OrOk o := ho
  replace he : srt o = srt ns := he
  replace hro : RwOk r := hro
  replace hcov : Cov ns r := hcov
  have nd := sc_flaw_open.nd
  refine ss_asg (P := fun d => d = .tup [rowI T r, ordI T o]) [3, 4] (jd_slT (ds := [.str "open", rowI T r, ordI T o]) (jv 1) (jos j_int) jon) (fun d e => ⟨_, jg_two (i := 3) (j := 4) rfl nd rfl (Or.inl rfl) rfl (Or.inl rfl) (by decide) (by decide) e, ?_⟩)
  refine ss_setD (d := flD (fUnb rs o)) 2 nd (jd_f F1 ⟨(⟨(ns, rs), hb⟩, o), ho, he⟩ hr (jac (jv 0) (jac (jv 4) jan))) ?_
  refine ss_ifD0 (u := (fUnb rs o).isNone && bears o r) (JW.t (jw_and (jt_eq (jt_isN (jv 2)) (flD_isN _)) fun _ => jw_and1 (jt_val (jd_me F2 ⟨(o, r), ho, hro, cov_of he hcov⟩ (jv 4) T.kO (hr.mono (by decide)) (jac (jv 3) jan) rfl rfl)))) (fun h => ss_retD (jd_tup (jac j_str (jac j_non jan))) ?_) fun h => ss_retD (jv 2) ?_
  · show _ = flD (fOpen rs r o)
    unfold fOpen
    rw [if_pos h]
    rfl
  · show _ = flD (fOpen rs r o)
    unfold fOpen
    rw [if_neg (by rw [h]; decide)]
end
end FD
end
section
set_option maxHeartbeats 2000000
/-! paperforms.py, papers.py -/
namespace FD
open PySem PySem.Spec PyProof.Rows L2
/-- a part of a paper -/
inductive Pa where
  | non | bl (b : Bool) | int (i : Int) | str (s : Str) | seq (t : Bool) (its : List D) | dic | ord (o : List Str) | row (r : Rw)
def sqD (t : Bool) (ds : List D) : D := if t = true then .tup ds else .lst ds
section
variable {K : PySem.W.Frag} {mg : Str → Option Value} (T : Mo K mg)
/-- as it is asked -/
def aD : Pa → D
  | .non => .non
  | .bl b => .bl b
  | .int i => .int i
  | .str s => .str s
  | .seq t its => sqD t its
  | .dic => .dic [("a", .int 1)]
  | .ord o => ordI T o
  | .row r => rowI T r
def ItOk (e : D) : Prop := Tp T e ∧ e.txt.length ≤ 1000 ∧ e.isIns T.cO = false
def PaOk : Pa → Prop
  | .str s => s.length ≤ 1000
  | .seq _ its => its.length ≤ 1000 ∧ ∀ e ∈ its, ItOk T e
  | .ord o => OrOk o
  | .row r => RwOk r ∧ srt r.1 = r.1 ∧ srt r.2 = r.2
  | _ => True
theorem tp_ord (o : List Str) : Tp T (ordI T o) := ⟨.ord, by show (if T.cO = T.cR then some Tg.row else if T.cO = T.cO then some Tg.ord else _) = _; rw [if_neg T.ne1.symm, if_pos rfl]⟩
theorem tp_row (r : Rw) : Tp T (rowI T r) := ⟨.row, by show (if T.cR = T.cR then some Tg.row else _) = _; rw [if_pos rfl]⟩
theorem tp_book (ns : List Str) (rs : List Rc) : Tp T (bookI T ns rs) := ⟨.book, by show (if T.cB = T.cR then some Tg.row else if T.cB = T.cO then some Tg.ord else if T.cB = T.cB then some Tg.book else none) = _; rw [if_neg T.ne2.symm, if_neg T.ne3.symm, if_pos rfl]⟩
theorem tp_aD (p : Pa) : Tp T (aD T p) := by
  cases p with
  | ord o => exact tp_ord T o
  | row r => exact tp_row T r
  | seq t its => cases t <;> exact ⟨_, rfl⟩
  | _ => exact ⟨_, rfl⟩
end
section
variable (ns : List Str) (rs : List Rc)
def ordQ : Pa → Bool
  | .ord o => decide (srt o = srt ns)
  | _ => false
def rowQ : Pa → Bool
  | .row r => (r.1 ++ r.2).all fun s => decide (s ∈ srt ns)
  | _ => false
def lotQ : Pa → Bool
  | .seq true its => its.all D.isStr && isLot rs (its.map D.txt)
  | _ => false
end
section
variable {P : Program} {w : World} {K : PySem.W.Frag} {mg : Str → Option Value} {base : Heap} (T : Mo K mg)
abbrev s_is_order_of : Stmt := top 116
theorem sc_is_order_of : FnScope ["book", "value"] ["book", "value"] (defScope s_is_order_of) := ⟨rfl, rfl, rfl, by decide +kernel, rfl, by decide +kernel, by decide +kernel⟩
/-- an order, or no order -/
abbrev Oq : Type := {o : List Str // OrOk o} ⊕ {d : D // Tp T d ∧ d.isIns T.cO = false}
abbrev Oq.d : Oq T → D
  | .inl o => ordI T o.1
  | .inr d => d.1
def Oq.q (ns : List Str) : Oq T → Bool
  | .inl o => decide (srt o.1 = srt ns)
  | .inr _ => false
abbrev P_is_order_of : Sp := Pro (ι := Bq × Oq T) (fun i => [i.1.d T, i.2.d T]) fun i d => d = .bl (i.2.q T i.1.1.1)
theorem F_is_order_of (dn : Dn K mg "is_order_of" s_is_order_of) : Fd P w K mg base "is_order_of" 1 (P_is_order_of T) := by
  refine dn.fd (fun f fd G => fn_pro (k := 0) G sc_is_order_of (fun i => rfl) ?_) fun f fd G => G.binds fun _ _ _ _ _ _ us hl => match us, hl with | [_, _], _ => rfl
  rintro ⟨⟨⟨ns, rs⟩, hb⟩, q⟩ f cdv A outer s H E hr
  replace hb : BkOk ns rs := hb
  have b1 : NoAttr K T.cB "reasons" := T.nB "reasons" (by decide)
  have o1 : NoAttr K T.cO "reasons" := T.nO "reasons" (by decide)
  rcases q with ⟨o, ho⟩ | ⟨d, ht, hd⟩
  · refine ss_retD (jd_and (i_Order T (d := ordI T o) (jv 1) (tp_ord T o)) fun _ => jd_one (jd_eqST (ss := srt o) (zs := srt ns) hr.units (jd_fld (jv 1) T.kO o1 rfl) (jd_fld (jv 0) T.kB b1 rfl) (srt_nms ho.n).sok (srt_nms hb.n).sok)) ?_
    show D.bl (decide (T.cO = T.cO) && _) = D.bl (decide (srt o = srt ns))
    rw [decide_eq_true rfl, Bool.true_and]
  · refine ss_retD (jd_and (w := true) (i_Order T (d := d) (jv 1) ht) fun h => by rw [hd] at h; cases h) ?_
    show D.bl (d.isIns T.cO && true) = D.bl false
    rw [hd]
    rfl
abbrev s_is_row_of : Stmt := top 117
theorem sc_is_row_of : FnScope ["book", "value", "reason"] ["book", "value"] (defScope s_is_row_of) := ⟨rfl, rfl, rfl, by decide +kernel, rfl, by decide +kernel, by decide +kernel⟩
abbrev P_is_row_of : Sp := Pro (ι := Bq × {p : Pa // PaOk T p}) (fun i => [i.1.d T, aD T i.2.1]) fun i d => d = .bl (rowQ i.1.1.1 i.2.1)
theorem F_is_row_of (dn : Dn K mg "is_row_of" s_is_row_of) : Fd P w K mg base "is_row_of" 1 (P_is_row_of T) := by
  refine dn.fd (fun f fd G => fn_pro (k := 0) G sc_is_row_of (fun i => rfl) ?_) fun f fd G => G.binds fun _ _ _ _ _ _ us hl => match us, hl with | [_, _], _ => rfl
  rintro ⟨⟨⟨ns, rs⟩, hb⟩, p, hp⟩ f cdv A outer s H E hr
  have nd := sc_is_row_of.nd
  have b1 : NoAttr K T.cB "reasons" := T.nB "reasons" (by decide)
  have nP : NoAttr K T.cR "pro" := T.nR "pro" (by decide)
  have nC : NoAttr K T.cR "con" := T.nR "con" (by decide)
  cases p with
  | row r =>
    replace hp : RwOk r ∧ _ := hp
    have f1 := hp.1.f1
    have f2 := hp.1.f2
    have hlen : ((r.1 ++ r.2).map D.str).length ≤ 16 := by rw [List.length_map, List.length_append]; omega
    refine ss_retD (jd_and (i_Row T (d := rowI T r) (jv 1) (tp_row T r)) fun _ => jd_one (jd_allc (xs := r.1 ++ r.2) (f := fun s => decide (s ∈ srt ns)) T rfl (jd_lcm (own := [("reason", 2)]) (r.1 ++ r.2) D.str _ rfl nd (blkOk_by (by kernel_rfl)) (ji (ds := (r.1 ++ r.2).map D.str) (j_eq (d2 := .tup ((r.1 ++ r.2).map D.str)) (jd_catT (ds := r.1.map D.str) (ds' := r.2.map D.str) (jd_fld (jv 1) T.kR nP rfl) (jd_fld (jv 1) T.kR nC rfl) (by rw [List.length_map, List.length_map, sizeLine_eq]; omega)) (by rw [List.map_append])) (by omega) (.inr rfl)) fun s _ => ⟨_, fun _ _ _ _ _ => jg_name (i := 2) nd rfl (by first | exact Or.inl rfl | exact Or.inr rfl) (by decide), fun _ _ _ _ _ => jd_inS (ss := srt ns) (jv 2) (jd_fld (jv 0) T.kB b1 rfl) (.inr rfl)⟩))) ?_
    show D.bl (decide (T.cR = T.cR) && _) = D.bl ((r.1 ++ r.2).all _)
    rw [decide_eq_true rfl, Bool.true_and]
  | ord o =>
    refine ss_retD (jd_and (w := true) (i_Row T (d := ordI T o) (jv 1) (tp_ord T o)) fun h => ?_) ?_
    · have : T.cO = T.cR := of_decide_eq_true h
      exact absurd this.symm T.ne1
    · show D.bl (decide (T.cO = T.cR) && true) = D.bl false
      rw [decide_eq_false T.ne1.symm]
      rfl
  | seq t its =>
    have e : (sqD t its).isIns T.cR = false := by cases t <;> rfl
    refine ss_retD (jd_and (w := true) (i_Row T (d := sqD t its) (jv 1) (tp_aD T (.seq t its))) fun h => by rw [e] at h; cases h) ?_
    show D.bl ((sqD t its).isIns T.cR && true) = D.bl false
    rw [e]
    rfl
  | non => exact ss_retD (jd_and (w := true) (i_Row T (d := .non) (jv 1) ⟨_, rfl⟩) fun h => by cases h) rfl
  | bl b => exact ss_retD (jd_and (w := true) (i_Row T (d := .bl b) (jv 1) ⟨_, rfl⟩) fun h => by cases h) rfl
  | int b => exact ss_retD (jd_and (w := true) (i_Row T (d := .int b) (jv 1) ⟨_, rfl⟩) fun h => by cases h) rfl
  | str b => exact ss_retD (jd_and (w := true) (i_Row T (d := .str b) (jv 1) ⟨_, rfl⟩) fun h => by cases h) rfl
  | dic => exact ss_retD (jd_and (w := true) (i_Row T (d := .dic _) (jv 1) ⟨_, rfl⟩) fun h => by cases h) rfl
abbrev s_is_lot_of : Stmt := top 118
theorem sc_is_lot_of : FnScope ["book", "value", "item"] ["book", "value"] (defScope s_is_lot_of) := ⟨rfl, rfl, rfl, by decide +kernel, rfl, by decide +kernel, by decide +kernel⟩
abbrev P_is_lot_of : Sp := Pro (ι := Bq × {p : Pa // PaOk T p}) (fun i => [i.1.d T, aD T i.2.1]) fun i d => d = .bl (lotQ i.1.1.2 i.2.1)
theorem all_strs : ∀ {ds : List D}, ds.all D.isStr = true → ds = (ds.map D.txt).map D.str
  | [], _ => rfl
  | d :: ds, h => by
    rw [List.all_cons, Bool.and_eq_true] at h
    obtain ⟨s, rfl⟩ := str_of h.1
    rw [List.map_cons, List.map_cons, ← all_strs h.2]
    rfl
theorem not_tup {p : Pa} (h : ∀ its, p ≠ .seq true its) : (aD T p).isTup = false ∧ ∀ rs, lotQ rs p = false := by
  cases p with
  | seq t its =>
    cases t with
    | true => exact absurd rfl (h its)
    | false => exact ⟨rfl, fun _ => rfl⟩
  | _ => exact ⟨rfl, fun _ => rfl⟩
theorem F_is_lot_of (dn : Dn K mg "is_lot_of" s_is_lot_of) (F1 : Md P w K mg base T.cB "is_lot" 4 (P_is_lot T)) : Fd P w K mg base "is_lot_of" 5 (P_is_lot_of T) := by
  refine dn.fd (fun f fd G => fn_pro (k := 4) G sc_is_lot_of (fun i => rfl) ?_) fun f fd G => G.binds fun _ _ _ _ _ _ us hl => match us, hl with | [_, _], _ => rfl
  rintro ⟨⟨⟨ns, rs⟩, hb⟩, p, hp⟩ f cdv A outer s H E hr
  have nd := sc_is_lot_of.nd
  by_cases hq : ∃ its, p = .seq true its
  · obtain ⟨its, rfl⟩ := hq
    replace hp : its.length ≤ 1000 ∧ ∀ e ∈ its, ItOk T e := hp
    refine ss_retD (jd_and (u := true) (w := its.all D.isStr && isLot rs (its.map D.txt)) (i_tuple T (d := .tup its) (jv 1) ⟨_, rfl⟩) fun _ => jd_and (jd_allc (xs := its) (f := D.isStr) T rfl (jd_lcm (own := [("item", 2)]) its id _ rfl nd (blkOk_by (by kernel_rfl)) (ji (ds := its.map id) (jv 1) (by rw [List.length_map]; omega) (.inr (by rw [List.map_id]; rfl))) fun e he => ⟨_, fun _ _ _ _ _ => jg_name (i := 2) nd rfl (by first | exact Or.inl rfl | exact Or.inr rfl) (by decide), fun _ _ _ _ _ => i_str T (jv 2) (hp.2 e he).1⟩)) fun h => ?_) rfl
    have e := all_strs h
    refine jd_one (jd_me F1 ⟨(⟨(ns, rs), hb⟩, its.map D.txt), by show (its.map D.txt).length ≤ 1000; rw [List.length_map]; exact hp.1, fun s hs => ?_⟩ (jv 0) T.kB hr (jac (j_eq (d2 := sT (its.map D.txt)) (jv 1) (by show D.tup its = _; unfold sT; rw [← e])) jan) rfl rfl)
    obtain ⟨x, hx, rfl⟩ := List.mem_map.mp hs
    exact (hp.2 x hx).2.1
  · have h0 := not_tup T (p := p) fun its e => hq ⟨its, e⟩
    refine ss_retD (jd_and (w := true) (i_tuple T (d := aD T p) (jv 1) (tp_aD T p)) fun h => by rw [h0.1] at h; cases h) ?_
    show D.bl ((aD T p).isTup && true) = D.bl (lotQ rs p)
    rw [h0.1, h0.2]
    rfl
abbrev s_are_orders : Stmt := top 120
theorem sc_are_orders : FnScope ["book", "value", "item"] ["book", "value"] (defScope s_are_orders) := ⟨rfl, rfl, rfl, by decide +kernel, rfl, by decide +kernel, by decide +kernel⟩
def noneQ (d : D) : Bool := d.isTup && d.items.isEmpty
abbrev P_are_orders : Sp := Pro (ι := Bq × {d : D // Tp T d ∧ d.items.length ≤ 1000 ∧ ∀ e ∈ d.items, Tp T e ∧ e.isIns T.cO = false}) (fun i => [i.1.d T, i.2.1]) fun i d => d = .bl (noneQ i.2.1)
theorem all_false {α : Type} (xs : List α) : xs.all (fun _ => false) = xs.isEmpty := by cases xs <;> rfl
theorem F_are_orders (dn : Dn K mg "are_orders" s_are_orders) (F1 : Fd P w K mg base "is_order_of" 1 (P_is_order_of T)) : Fd P w K mg base "are_orders" 2 (P_are_orders T) := by
  refine dn.fd (fun f fd G => fn_pro (k := 1) G sc_are_orders (fun i => rfl) ?_) fun f fd G => G.binds fun _ _ _ _ _ _ us hl => match us, hl with | [_, _], _ => rfl
  rintro ⟨b, d, ht, hz, hi⟩ f cdv A outer s H E hr
  have nd := sc_are_orders.nd
  refine ss_retD (jd_and (w := d.items.isEmpty) (i_tuple T (d := d) (jv 1) ht) fun h => jd_one (j_eq (jd_allc (xs := d.items) (f := fun _ => false) T rfl (jd_lcm (own := [("item", 2)]) d.items id _ rfl nd (blkOk_by (by kernel_rfl)) (ji (ds := d.items.map id) (jv 1) (by rw [List.length_map]; omega) (by rw [List.map_id]; exact sq_of (by rw [h]; exact Bool.or_true _))) fun e he => ⟨_, fun _ _ _ _ _ => jg_name (i := 2) nd rfl (by first | exact Or.inl rfl | exact Or.inr rfl) (by decide), fun _ _ _ _ _ => jd_f F1 (b, .inr ⟨e, hi e he⟩) hr (jac (jv 0) (jac (jv 2) jan))⟩)) (by rw [all_false]))) rfl
/-! the five forms -/
abbrev s_form_fits : Stmt := top 125
theorem sc_form_fits : FnScope ["book", "value"] ["book", "value"] (defScope s_form_fits) := ⟨rfl, rfl, rfl, by decide +kernel, rfl, by decide +kernel, by decide +kernel⟩
abbrev Pq : Type := {p : Pa // PaOk T p}
/-- a part as an order or none -/
theorem oq_of (p : Pq T) : ∃ q : Oq T, q.d T = aD T p.1 ∧ ∀ ns, q.q T ns = ordQ ns p.1 := by
  obtain ⟨p, hp⟩ := p
  cases p with
  | ord o => exact ⟨.inl ⟨o, hp⟩, rfl, fun _ => rfl⟩
  | row r => exact ⟨.inr ⟨rowI T r, tp_row T r, decide_eq_false T.ne1⟩, rfl, fun _ => rfl⟩
  | seq t its => exact ⟨.inr ⟨sqD t its, tp_aD T (.seq t its), by cases t <;> rfl⟩, rfl, fun _ => rfl⟩
  | non => exact ⟨.inr ⟨.non, ⟨_, rfl⟩, rfl⟩, rfl, fun _ => rfl⟩
  | bl b => exact ⟨.inr ⟨.bl b, ⟨_, rfl⟩, rfl⟩, rfl, fun _ => rfl⟩
  | int b => exact ⟨.inr ⟨.int b, ⟨_, rfl⟩, rfl⟩, rfl, fun _ => rfl⟩
  | str b => exact ⟨.inr ⟨.str b, ⟨_, rfl⟩, rfl⟩, rfl, fun _ => rfl⟩
  | dic => exact ⟨.inr ⟨.dic _, ⟨_, rfl⟩, rfl⟩, rfl, fun _ => rfl⟩
abbrev P2 (wd : Str) (q : Bq → Pa → Bool) : Sp := Pro (ι := Bq × Pq T) (fun i => [i.1.d T, .tup [.str wd, aD T i.2.1]]) fun i d => d = .bl (q i.1 i.2.1)
abbrev P3 (wd : Str) (q : Bq → Pa → Pa → Bool) : Sp := Pro (ι := Bq × Pq T × Pq T) (fun i => [i.1.d T, .tup [.str wd, aD T i.2.1.1, aD T i.2.2.1]]) fun i d => d = .bl (q i.1 i.2.1.1 i.2.2.1)
theorem F_form_fits (dn : Dn K mg "form_fits" s_form_fits) (F1 : Fd P w K mg base "is_order_of" 1 (P_is_order_of T)) : Fd P w K mg base "form_fits" 2 (P2 T "fits" fun b p => ordQ b.1.1 p) := by
  refine dn.fd (fun f fd G => fn_pro (k := 1) G sc_form_fits (fun i => rfl) ?_) fun f fd G => G.binds fun _ _ _ _ _ _ us hl => match us, hl with | [_, _], _ => rfl
  rintro ⟨b, p⟩ f cdv A outer s H E hr
  obtain ⟨q, h1, h2⟩ := oq_of T p
  exact ss_retD (jd_f F1 (b, q) hr (jac (jv 0) (jac (j_eq (jd_ix (jv 1) j_int at1 (.inr rfl)) h1.symm) jan))) (congrArg D.bl (h2 b.1.1))
abbrev s_form_stuck : Stmt := top 126
theorem sc_form_stuck : FnScope ["book", "value"] ["book", "value"] (defScope s_form_stuck) := ⟨rfl, rfl, rfl, by decide +kernel, rfl, by decide +kernel, by decide +kernel⟩
theorem F_form_stuck (dn : Dn K mg "form_stuck" s_form_stuck) (F1 : Fd P w K mg base "is_lot_of" 5 (P_is_lot_of T)) : Fd P w K mg base "form_stuck" 6 (P2 T "stuck" fun b p => lotQ b.1.2 p) := by
  refine dn.fd (fun f fd G => fn_pro (k := 5) G sc_form_stuck (fun i => rfl) ?_) fun f fd G => G.binds fun _ _ _ _ _ _ us hl => match us, hl with | [_, _], _ => rfl
  rintro ⟨b, p⟩ f cdv A outer s H E hr
  exact ss_retD (jd_f F1 (b, p) hr (jac (jv 0) (jac (jd_ix (jv 1) j_int at1 (.inr rfl)) jan))) rfl
abbrev s_form_follows : Stmt := top 127
theorem sc_form_follows : FnScope ["book", "value"] ["book", "value"] (defScope s_form_follows) := ⟨rfl, rfl, rfl, by decide +kernel, rfl, by decide +kernel, by decide +kernel⟩
theorem F_form_follows (dn : Dn K mg "form_follows" s_form_follows) (F1 : Fd P w K mg base "is_row_of" 1 (P_is_row_of T)) (F2 : Fd P w K mg base "is_lot_of" 5 (P_is_lot_of T)) : Fd P w K mg base "form_follows" 6 (P3 T "follows" fun b p q => rowQ b.1.1 p && lotQ b.1.2 q) := by
  refine dn.fd (fun f fd G => fn_pro (k := 5) G sc_form_follows (fun i => rfl) ?_) fun f fd G => G.binds fun _ _ _ _ _ _ us hl => match us, hl with | [_, _], _ => rfl
  rintro ⟨b, p, q⟩ f cdv A outer s H E hr
  exact ss_retD (jd_and (jd_f F1 (b, p) (hr.mono (by decide)) (jac (jv 0) (jac (jd_ix (jv 1) j_int at1 (.inr rfl)) jan))) fun _ => jd_one (jd_f F2 (b, q) hr (jac (jv 0) (jac (jd_ix (jv 1) j_int at2 (.inr rfl)) jan)))) rfl
abbrev s_form_open : Stmt := top 128
theorem sc_form_open : FnScope ["book", "value"] ["book", "value"] (defScope s_form_open) := ⟨rfl, rfl, rfl, by decide +kernel, rfl, by decide +kernel, by decide +kernel⟩
theorem F_form_open (dn : Dn K mg "form_open" s_form_open) (F1 : Fd P w K mg base "is_row_of" 1 (P_is_row_of T)) (F2 : Fd P w K mg base "is_order_of" 1 (P_is_order_of T)) : Fd P w K mg base "form_open" 2 (P3 T "open" fun b p q => rowQ b.1.1 p && ordQ b.1.1 q) := by
  refine dn.fd (fun f fd G => fn_pro (k := 1) G sc_form_open (fun i => rfl) ?_) fun f fd G => G.binds fun _ _ _ _ _ _ us hl => match us, hl with | [_, _], _ => rfl
  rintro ⟨b, p, q⟩ f cdv A outer s H E hr
  obtain ⟨o, h1, h2⟩ := oq_of T q
  exact ss_retD (jd_and (jd_f F1 (b, p) hr (jac (jv 0) (jac (jd_ix (jv 1) j_int at1 (.inr rfl)) jan))) fun _ => jd_one (jd_f F2 (b, o) hr (jac (jv 0) (jac (j_eq (jd_ix (jv 1) j_int at2 (.inr rfl)) h1.symm) jan)) (hp := by rintro _ rfl; exact congrArg D.bl (h2 b.1.1)))) rfl
abbrev s_form_clerks : Stmt := top 134
theorem sc_form_clerks : FnScope ["book", "value", "item"] ["book", "value"] (defScope s_form_clerks) := ⟨rfl, rfl, rfl, by decide +kernel, rfl, by decide +kernel, by decide +kernel⟩
theorem F_form_clerks (dn : Dn K mg "form_clerks" s_form_clerks) (F1 : Fd P w K mg base "are_orders" 2 (P_are_orders T)) : Fd P w K mg base "form_clerks" 3 (P3 T "clerks" fun b p q => false) := by
  refine dn.fd (fun f fd G => fn_pro (k := 2) G sc_form_clerks (fun i => rfl) ?_) fun f fd G => G.binds fun _ _ _ _ _ _ us hl => match us, hl with | [_, _], _ => rfl
  rintro ⟨b, ⟨p, hp⟩, q⟩ f cdv A outer s H E hr
  have hi : (aD T p).items.length ≤ 1000 ∧ ∀ e ∈ (aD T p).items, Tp T e ∧ e.isIns T.cO = false := by
    cases p with
    | seq t its =>
      replace hp : its.length ≤ 1000 ∧ ∀ e ∈ its, ItOk T e := hp
      cases t <;> exact ⟨hp.1, fun e he => ⟨(hp.2 e he).1, (hp.2 e he).2.2⟩⟩
    | _ => exact ⟨by show 0 ≤ 1000; decide, fun e he => nomatch he⟩
  refine ss_ifD0 (u := true) (jt_eq (JW.t (jw_or (w := true) (jt_not (jt_val (jd_f F1 (b, ⟨aD T p, tp_aD T p, hi⟩) hr (jac (jv 0) (jac (jd_ix (jv 1) j_int at1 (.inr rfl)) jan))))) fun h => ?_)) (Bool.or_true _)) (fun _ => ss_retD j_bl rfl) fun h => nomatch h
  have hn : noneQ (aD T p) = true := g3 h
  unfold noneQ at hn
  rw [Bool.and_eq_true] at hn
  have e : aD T p = .tup [] := by
    cases hd : aD T p with
    | tup ds =>
      rw [hd] at hn
      cases ds with
      | nil => rfl
      | cons a t => cases hn.2
    | _ => rw [hd] at hn; cases hn.1
  exact jw_or (u := true) (w := true) (jt_eq (jt_eqI (jd_len T (ds := []) (jd_ix (jv 1) j_int at1 (.inr rfl)) (.inr e)) j_int) rfl) fun h => nomatch h
end
end FD
end
section
set_option maxHeartbeats 2000000
/-! is_paper, paper_flaw, flaw -/
namespace FD
open PySem PySem.Spec PyProof.Rows L2
def lens10 : List (Str × D) := [("fits", .int 2), ("stuck", .int 2), ("follows", .int 3), ("open", .int 3), ("some", .int 5), ("surely", .int 4), ("never", .int 5), ("slips", .int 4), ("changes", .int 4), ("clerks", .int 3)]
def words5 : List Str := ["some", "surely", "never", "slips", "changes"]
/-- the three tables -/
structure Tb (K : PySem.W.Frag) (w : World) (mg : Str → Option Value) where
  aF : Addr
  aL : Addr
  aX : Addr
  kF : List (Str × D)
  kX : List (Str × D)
  gF : mg "FORMS" = some (.ref aF)
  gL : mg "LENGTHS" = some (.ref aL)
  gX : mg "FLAWS" = some (.ref aX)
  tF : Tbl K w aF kF
  tL : Tbl K w aL lens10
  tX : Tbl K w aX kX
  keys : kF.map Prod.fst = words10
  fF : ∀ q ∈ ([("fits", "form_fits"), ("stuck", "form_stuck"), ("follows", "form_follows"), ("open", "form_open"), ("clerks", "form_clerks")] : List (Str × Str)), ∃ f, mg q.2 = some (.ref f) ∧ kF.lookup q.1 = some (.adr f)
  fX : ∀ q ∈ ([("fits", "flaw_fits"), ("stuck", "flaw_stuck"), ("follows", "flaw_follows"), ("open", "flaw_open")] : List (Str × Str)), ∃ f, mg q.2 = some (.ref f) ∧ kX.lookup q.1 = some (.adr f)
theorem Fd.at_ {P : Program} {w : World} {K : PySem.W.Frag} {mg : Str → Option Value} {base : Heap} {x : Str} {k : Nat} {sp : Sp} (F : Fd P w K mg base x k sp) {f : Addr} (h : mg x = some (.ref f)) : Ref P w K mg base k f sp := by
  obtain ⟨f', h1, h2, h3⟩ := F.ex
  rw [h] at h1
  cases h1
  exact ⟨h2, h3⟩
def WdOk (ps : List Pa) : Prop := ps.length ≤ 3 ∨ ∀ wd rest, ps = .str wd :: rest → wd ∉ words5
section
variable (ns : List Str) (rs : List Rc)
def papQ : List Pa → Bool
  | [.str wd, p] => (decide (wd = "fits") && ordQ ns p) || (decide (wd = "stuck") && lotQ rs p)
  | [.str wd, p, q] => (decide (wd = "follows") && (rowQ ns p && lotQ rs q)) || (decide (wd = "open") && (rowQ ns p && ordQ ns q))
  | _ => false
def lotOf (ss : List Str) : List Rc := rs.filter fun r => decide (r.1 ∈ ss)
def form0 : Fl := some ("form", none)
def flawIn (ps : List Pa) : Fl := match ps with
  | [_, .ord o] => fUnb rs o
  | [_, .seq _ its] => fStuck (lotOf rs (its.map D.txt))
  | [_, .row r, .seq _ its] => fGrounds r (lotOf rs (its.map D.txt))
  | [_, .row r, .ord o] => fOpen rs r o
  | _ => form0
def flawM (ps : List Pa) : Fl := if papQ ns rs ps = true then flawIn rs ps else form0
end
section
variable {P : Program} {w : World} {K : PySem.W.Frag} {mg : Str → Option Value} {base : Heap} (T : Mo K mg) (tb : Tb K w mg)
/-- what is asked of flaw: no tuple, or a paper -/
abbrev Vq : Type := {d : D // Tp T d ∧ d.isTup = false} ⊕ {ps : List Pa // (∀ p ∈ ps, PaOk T p) ∧ ps.length ≤ 1000 ∧ WdOk ps}
abbrev Vq.d : Vq T → D
  | .inl d => d.1
  | .inr ps => .tup (ps.1.map (aD T))
def Vq.pap (b : Bq) : Vq T → Bool
  | .inl _ => false
  | .inr ps => papQ b.1.1 b.1.2 ps.1
def Vq.fl (b : Bq) : Vq T → Fl
  | .inl _ => form0
  | .inr ps => flawM b.1.1 b.1.2 ps.1
theorem w10 {wd : Str} (h : wd ∈ words10) : ∃ n : Nat, lens10.lookup wd = some (.int n) ∧ (wd ∈ words5 → 4 ≤ n) ∧ (wd = "fits" → n = 2) ∧ (wd = "stuck" → n = 2) ∧ (wd = "follows" → n = 3) ∧ (wd = "open" → n = 3) ∧ (wd = "clerks" → n = 3) := by
  simp only [words10, List.mem_cons, List.not_mem_nil, or_false] at h
  rcases h with rfl | rfl | rfl | rfl | rfl | rfl | rfl | rfl | rfl | rfl
  · exact ⟨2, rfl, by decide, by decide, by decide, by decide, by decide, by decide⟩
  · exact ⟨2, rfl, by decide, by decide, by decide, by decide, by decide, by decide⟩
  · exact ⟨3, rfl, by decide, by decide, by decide, by decide, by decide, by decide⟩
  · exact ⟨3, rfl, by decide, by decide, by decide, by decide, by decide, by decide⟩
  · exact ⟨5, rfl, by decide, by decide, by decide, by decide, by decide, by decide⟩
  · exact ⟨4, rfl, by decide, by decide, by decide, by decide, by decide, by decide⟩
  · exact ⟨5, rfl, by decide, by decide, by decide, by decide, by decide, by decide⟩
  · exact ⟨4, rfl, by decide, by decide, by decide, by decide, by decide, by decide⟩
  · exact ⟨4, rfl, by decide, by decide, by decide, by decide, by decide, by decide⟩
  · exact ⟨3, rfl, by decide, by decide, by decide, by decide, by decide, by decide⟩
theorem pap_str {ns : List Str} {rs : List Rc} {p : Pa} {ps : List Pa} (h : ∀ s, p ≠ .str s) : papQ ns rs (p :: ps) = false := by
  cases p with
  | str s => exact absurd rfl (h s)
  | _ => rfl
theorem pap_word {ns : List Str} {rs : List Rc} {wd : Str} {ps : List Pa} (h : wd ∉ words10) : papQ ns rs (.str wd :: ps) = false := by
  simp only [words10, List.mem_cons, List.not_mem_nil, or_false, not_or] at h
  obtain ⟨h1, h2, h3, h4, _⟩ := h
  match ps with
  | [] => rfl
  | [p] => simp [papQ, h1, h2]
  | [p, q] => simp [papQ, h3, h4]
  | _ :: _ :: _ :: _ => rfl
theorem pap_len {ns : List Str} {rs : List Rc} {wd : Str} {ps : List Pa} {n : Nat} (h : ps.length + 1 ≠ n) (hn : (wd = "fits" → n = 2) ∧ (wd = "stuck" → n = 2) ∧ (wd = "follows" → n = 3) ∧ (wd = "open" → n = 3)) : papQ ns rs (.str wd :: ps) = false := by
  obtain ⟨a, b, c, d⟩ := hn
  match ps, h with
  | [], _ => rfl
  | [p], h =>
    have h1 : ¬ wd = "fits" := fun e => h (a e).symm
    have h2 : ¬ wd = "stuck" := fun e => h (b e).symm
    simp [papQ, h1, h2]
  | [p, q], h =>
    have h1 : ¬ wd = "follows" := fun e => h (c e).symm
    have h2 : ¬ wd = "open" := fun e => h (d e).symm
    simp [papQ, h1, h2]
  | _ :: _ :: _ :: _, _ => rfl
abbrev s_is_paper : Stmt := top 137
theorem sc_is_paper : FnScope ["book", "value", "word", "form"] ["book", "value"] (defScope s_is_paper) := ⟨rfl, rfl, rfl, by decide +kernel, rfl, by decide +kernel, by decide +kernel⟩
abbrev P_is_paper : Sp := Pro (ι := Bq × Vq T) (fun i => [i.1.d T, i.2.d T]) fun i d => d = .bl (i.2.pap T i.1)
include tb
theorem F_is_paper (dn : Dn K mg "is_paper" s_is_paper) (F1 : Fd P w K mg base "form_fits" 2 (P2 T "fits" fun b p => ordQ b.1.1 p)) (F2 : Fd P w K mg base "form_stuck" 6 (P2 T "stuck" fun b p => lotQ b.1.2 p)) (F3 : Fd P w K mg base "form_follows" 6 (P3 T "follows" fun b p q => rowQ b.1.1 p && lotQ b.1.2 q))
    (F4 : Fd P w K mg base "form_open" 2 (P3 T "open" fun b p q => rowQ b.1.1 p && ordQ b.1.1 q)) (F5 : Fd P w K mg base "form_clerks" 3 (P3 T "clerks" fun b p q => false)) : Fd P w K mg base "is_paper" 7 (P_is_paper T) := by
  refine dn.fd (fun f fd G => fn_pro (k := 6) G sc_is_paper (fun i => rfl) ?_) fun f fd G => G.binds fun _ _ _ _ _ _ us hl => match us, hl with | [_, _], _ => rfl
  rintro ⟨b, v⟩ f cdv A outer s H E hr
  have nd := sc_is_paper.nd
  rcases v with ⟨d, ht, hd⟩ | ⟨ps, hps, hz, hw⟩
  · refine ss_ifD0 (JW.t (jw_or (w := true) (jt_not (jt_val (i_tuple T (d := d) (jv 1) ht))) fun h => by rw [hd] at h; cases h)) (fun _ => ss_retD j_bl rfl) fun h => by rw [hd] at h; cases h
  replace hw : WdOk ps := hw
  replace hz : ps.length ≤ 1000 := hz
  replace hps : ∀ p ∈ ps, PaOk T p := hps
  have done : ∀ u : Bool, papQ b.1.1 b.1.2 ps = u → (poOf fun d => d = .bl (papQ b.1.1 b.1.2 ps)).R (.bl u) := fun u e => congrArg D.bl e.symm
  cases ps with
  | nil => exact ss_ifD0 (u := true) (jt_eq (JW.t (jw_or (jt_not (jt_val (i_tuple T (jv 1) ⟨_, rfl⟩))) fun _ => jw_or1 (jt_eqI (jd_len T (ds := []) (jv 1) (.inr rfl)) j_int))) rfl) (fun _ => ss_retD j_bl rfl) fun h => nomatch h
  | cons p ps =>
    refine ss_ifNo (JW.t (jw_or (jt_not (jt_val (i_tuple T (d := .tup ((p :: ps).map (aD T))) (jv 1) ⟨_, rfl⟩))) fun _ => jw_or1 (jt_eqI (jd_len T (ds := (p :: ps).map (aD T)) (jv 1) (.inr rfl)) j_int))) ?_ ?_
    · show (false || decide _) = false
      rw [Bool.false_or, decide_eq_false]
      rw [List.length_map, List.length_cons]
      omega
    refine ss_setD (d := aD T p) 2 nd (jd_ix (ds := (p :: ps).map (aD T)) (jv 1) j_int at0 (.inr rfl)) ?_
    by_cases hs : ∃ wd, p = .str wd
    · obtain ⟨wd, rfl⟩ := hs
      by_cases hw10 : wd ∈ words10
      · obtain ⟨n, hn, h5, hf, hst, hfo, hop, hcl⟩ := w10 hw10
        have hin : (!(tb.kF.lookup wd).isSome) = false := by rw [lookup_some, tb.keys, decide_eq_true hw10]; rfl
        by_cases hlen : ps.length + 1 = n
        · refine ss_ifNo (JW.t (jw_or (jt_not (jt_val (i_str T (d := .str wd) (jv 2) ⟨_, rfl⟩))) fun _ => jw_or (jt_tnin (jv 2) (j_glob tb.gF (v := .ref _) rfl fun _ => .adr _) tb.tF) fun _ => jw_or1 (jt_neI (jd_len T (ds := (Pa.str wd :: ps).map (aD T)) (jv 1) (.inr rfl)) (jd_tget (jv 2) (j_glob tb.gL (v := .ref _) rfl fun _ => .adr _) tb.tL hn)))) ?_ ?_
          · rw [hin]
            show (false || (false || !decide _)) = false
            rw [Bool.false_or, Bool.false_or, decide_eq_true]
            · rfl
            · rw [List.length_map, List.length_cons, hlen]
          have h5' : wd ∉ words5 := by
            rcases hw with h | h
            · intro hm
              have := h5 hm
              rw [List.length_cons] at h
              omega
            · exact h wd ps rfl
          have hcase : wd = "fits" ∨ wd = "stuck" ∨ wd = "follows" ∨ wd = "open" ∨ wd = "clerks" := by
            simp only [words10, words5, List.mem_cons, List.not_mem_nil, or_false, not_or] at hw10 h5'
            rcases hw10 with h | h | h | h | h | h | h | h | h | h
            · exact .inl h
            · exact .inr (.inl h)
            · exact .inr (.inr (.inl h))
            · exact .inr (.inr (.inr (.inl h)))
            · exact absurd h h5'.1
            · exact absurd h h5'.2.1
            · exact absurd h h5'.2.2.1
            · exact absurd h h5'.2.2.2.1
            · exact absurd h h5'.2.2.2.2
            · exact .inr (.inr (.inr (.inr h)))
          have two : n = 2 → ∃ q, ps = [q] := fun e => by
            match ps, hlen with
            | [q], _ => exact ⟨q, rfl⟩
            | [], h => simp at h; omega
            | _ :: _ :: _, h => simp at h; omega
          have three : n = 3 → ∃ q r, ps = [q, r] := fun e => by
            match ps, hlen with
            | [q, r], _ => exact ⟨q, r, rfl⟩
            | [], h => simp at h; omega
            | [_], h => simp at h; omega
            | _ :: _ :: _ :: _, h => simp at h; omega
          rcases hcase with rfl | rfl | rfl | rfl | rfl
          · obtain ⟨q, rfl⟩ := two (hf rfl)
            obtain ⟨fa, g1, g2⟩ := tb.fF ("fits", "form_fits") (by decide)
            refine ss_setD (d := .adr fa) 3 nd (jd_tget (jv 2) (j_glob tb.gF (v := .ref _) rfl fun _ => .adr _) tb.tF g2) ?_
            refine ss_ret (jd_loc 3 rfl (F1.at_ g1) (b, ⟨q, hps q (by simp)⟩) (hr.mono (by decide)) (jac (jv 0) (jac (jv 1) jan))) ?_
            rintro _ rfl
            refine done _ ?_
            have : ¬ (("fits" : Str) = "stuck") := by decide
            simp [papQ, this]
          · obtain ⟨q, rfl⟩ := two (hst rfl)
            obtain ⟨fa, g1, g2⟩ := tb.fF ("stuck", "form_stuck") (by decide)
            refine ss_setD (d := .adr fa) 3 nd (jd_tget (jv 2) (j_glob tb.gF (v := .ref _) rfl fun _ => .adr _) tb.tF g2) ?_
            refine ss_ret (jd_loc 3 rfl (F2.at_ g1) (b, ⟨q, hps q (by simp)⟩) (hr.mono (by decide)) (jac (jv 0) (jac (jv 1) jan))) ?_
            rintro _ rfl
            refine done _ ?_
            have : ¬ (("stuck" : Str) = "fits") := by decide
            simp [papQ, this]
          · obtain ⟨q, r, rfl⟩ := three (hfo rfl)
            obtain ⟨fa, g1, g2⟩ := tb.fF ("follows", "form_follows") (by decide)
            refine ss_setD (d := .adr fa) 3 nd (jd_tget (jv 2) (j_glob tb.gF (v := .ref _) rfl fun _ => .adr _) tb.tF g2) ?_
            refine ss_ret (jd_loc 3 rfl (F3.at_ g1) (b, ⟨q, hps q (by simp)⟩, ⟨r, hps r (by simp)⟩) (hr.mono (by decide)) (jac (jv 0) (jac (jv 1) jan))) ?_
            rintro _ rfl
            refine done _ ?_
            have : ¬ (("follows" : Str) = "open") := by decide
            simp [papQ, this]
          · obtain ⟨q, r, rfl⟩ := three (hop rfl)
            obtain ⟨fa, g1, g2⟩ := tb.fF ("open", "form_open") (by decide)
            refine ss_setD (d := .adr fa) 3 nd (jd_tget (jv 2) (j_glob tb.gF (v := .ref _) rfl fun _ => .adr _) tb.tF g2) ?_
            refine ss_ret (jd_loc 3 rfl (F4.at_ g1) (b, ⟨q, hps q (by simp)⟩, ⟨r, hps r (by simp)⟩) (hr.mono (by decide)) (jac (jv 0) (jac (jv 1) jan))) ?_
            rintro _ rfl
            refine done _ ?_
            have : ¬ (("open" : Str) = "follows") := by decide
            simp [papQ, this]
          · obtain ⟨q, r, rfl⟩ := three (hcl rfl)
            obtain ⟨fa, g1, g2⟩ := tb.fF ("clerks", "form_clerks") (by decide)
            refine ss_setD (d := .adr fa) 3 nd (jd_tget (jv 2) (j_glob tb.gF (v := .ref _) rfl fun _ => .adr _) tb.tF g2) ?_
            refine ss_ret (jd_loc 3 rfl (F5.at_ g1) (b, ⟨q, hps q (by simp)⟩, ⟨r, hps r (by simp)⟩) (hr.mono (by decide)) (jac (jv 0) (jac (jv 1) jan))) ?_
            rintro _ rfl
            refine done _ ?_
            have h1 : ¬ (("clerks" : Str) = "follows") := by decide
            have h2 : ¬ (("clerks" : Str) = "open") := by decide
            simp [papQ, h1, h2]
        · refine ss_ifD0 (u := true) (jt_eq (JW.t (jw_or (jt_not (jt_val (i_str T (d := .str wd) (jv 2) ⟨_, rfl⟩))) fun _ => jw_or (jt_tnin (jv 2) (j_glob tb.gF (v := .ref _) rfl fun _ => .adr _) tb.tF) fun _ => jw_or1 (jt_neI (jd_len T (ds := (Pa.str wd :: ps).map (aD T)) (jv 1) (.inr rfl)) (jd_tget (jv 2) (j_glob tb.gL (v := .ref _) rfl fun _ => .adr _) tb.tL hn)))) ?_) (fun _ => ss_retD j_bl (done false (pap_len hlen ⟨hf, hst, hfo, hop⟩))) fun h => nomatch h
          rw [hin]
          show (false || (false || !decide _)) = true
          rw [Bool.false_or, Bool.false_or, decide_eq_false]
          · rfl
          · rw [List.length_map, List.length_cons]
            omega
      · have hin : (!(tb.kF.lookup wd).isSome) = true := by rw [lookup_some, tb.keys, decide_eq_false hw10]; rfl
        refine ss_ifD0 (u := true) (jt_eq (JW.t (jw_or (jt_not (jt_val (i_str T (d := .str wd) (jv 2) ⟨_, rfl⟩))) fun _ => jw_or (w := true) (jt_tnin (jv 2) (j_glob tb.gF (v := .ref _) rfl fun _ => .adr _) tb.tF) fun h => by rw [hin] at h; cases h)) (by rw [hin]; rfl)) (fun _ => ss_retD j_bl (done false (pap_word hw10))) fun h => nomatch h
    · have hn : (aD T p).isStr = false := by
        cases p with
        | str s => exact absurd ⟨s, rfl⟩ hs
        | seq t its => cases t <;> rfl
        | _ => rfl
      refine ss_ifD0 (u := true) (jt_eq (JW.t (jw_or (w := true) (jt_not (jt_val (i_str T (d := aD T p) (jv 2) (tp_aD T p)))) fun h => by rw [hn] at h; cases h)) (by rw [hn]; rfl)) (fun _ => ss_retD j_bl (done false (pap_str fun s e => hs ⟨s, e⟩))) fun h => nomatch h
end
end FD
end
section
set_option maxHeartbeats 2000000
/-! paper_flaw, flaw -/
namespace FD
open PySem PySem.Spec PyProof.Rows L2
section
variable {P : Program} {w : World} {K : PySem.W.Frag} {mg : Str → Option Value} {base : Heap} (T : Mo K mg) (tb : Tb K w mg)
/-- a good paper -/
inductive Gp where
  | fits (i : Bo) | stuck (i : Bl_) | follows (i : {p : Bl_ × Rw // RwOk p.2}) | opn (i : {p : Bo × Rw // RwOk p.2 ∧ Cov p.1.1.1.1.1 p.2})
def Gp.b : Gp → Bq
  | .fits i => i.1.1
  | .stuck i => i.1.1
  | .follows i => i.1.1.1.1
  | .opn i => i.1.1.1.1
def Gp.d : Gp → D
  | .fits i => .tup [.str "fits", ordI T i.1.2]
  | .stuck i => .tup [.str "stuck", sT (i.1.2.map Prod.fst)]
  | .follows i => .tup [.str "follows", rowI T i.1.2, sT (i.1.1.1.2.map Prod.fst)]
  | .opn i => .tup [.str "open", rowI T i.1.2, ordI T i.1.1.1.2]
def Gp.fl : Gp → Fl
  | .fits i => fUnb i.1.1.1.2 i.1.2
  | .stuck i => fStuck i.1.2
  | .follows i => fGrounds i.1.2 i.1.1.1.2
  | .opn i => fOpen i.1.1.1.1.1.2 i.1.2 i.1.1.1.2
abbrev s_paper_flaw : Stmt := top 112
theorem sc_paper_flaw : FnScope ["book", "value", "step"] ["book", "value"] (defScope s_paper_flaw) := ⟨rfl, rfl, rfl, by decide +kernel, rfl, by decide +kernel, by decide +kernel⟩
abbrev P_paper_flaw : Sp := Pro (ι := Gp) (fun i => [i.b.d T, i.d T]) fun i d => d = flD i.fl
include tb
theorem F_paper_flaw (dn : Dn K mg "paper_flaw" s_paper_flaw) (F1 : Fd P w K mg base "flaw_fits" 5 (P_flaw_fits T)) (F2 : Fd P w K mg base "flaw_stuck" 6 (P_flaw_stuck T)) (F3 : Fd P w K mg base "flaw_follows" 7 (P_flaw_follows T)) (F4 : Fd P w K mg base "flaw_open" 5 (P_flaw_open T)) : Fd P w K mg base "paper_flaw" 8 (P_paper_flaw T) := by
  refine dn.fd (fun f fd G => fn_pro (k := 7) G sc_paper_flaw (fun i => rfl) ?_) fun f fd G => G.binds fun _ _ _ _ _ _ us hl => match us, hl with | [_, _], _ => rfl
  rintro i f cdv A outer s H E hr
  have nd := sc_paper_flaw.nd
  cases i with
  | fits i =>
    obtain ⟨fa, g1, g2⟩ := tb.fX ("fits", "flaw_fits") (by decide)
    refine ss_setD (d := .adr fa) 2 nd (jd_tget (jd_ix (jv 1) j_int at0 (.inr rfl)) (j_glob tb.gX (v := .ref _) rfl fun _ => .adr _) tb.tX g2) ?_
    exact ss_ret (jd_loc 2 rfl (F1.at_ g1) i (hr.mono (by decide)) (jac (jv 0) (jac (jv 1) jan))) fun d h => h
  | stuck i =>
    obtain ⟨fa, g1, g2⟩ := tb.fX ("stuck", "flaw_stuck") (by decide)
    refine ss_setD (d := .adr fa) 2 nd (jd_tget (jd_ix (jv 1) j_int at0 (.inr rfl)) (j_glob tb.gX (v := .ref _) rfl fun _ => .adr _) tb.tX g2) ?_
    exact ss_ret (jd_loc 2 rfl (F2.at_ g1) i (hr.mono (by decide)) (jac (jv 0) (jac (jv 1) jan))) fun d h => h
  | follows i =>
    obtain ⟨fa, g1, g2⟩ := tb.fX ("follows", "flaw_follows") (by decide)
    refine ss_setD (d := .adr fa) 2 nd (jd_tget (jd_ix (jv 1) j_int at0 (.inr rfl)) (j_glob tb.gX (v := .ref _) rfl fun _ => .adr _) tb.tX g2) ?_
    exact ss_ret (jd_loc 2 rfl (F3.at_ g1) i (hr.mono (by decide)) (jac (jv 0) (jac (jv 1) jan))) fun d h => h
  | opn i =>
    obtain ⟨fa, g1, g2⟩ := tb.fX ("open", "flaw_open") (by decide)
    refine ss_setD (d := .adr fa) 2 nd (jd_tget (jd_ix (jv 1) j_int at0 (.inr rfl)) (j_glob tb.gX (v := .ref _) rfl fun _ => .adr _) tb.tX g2) ?_
    exact ss_ret (jd_loc 2 rfl (F4.at_ g1) i (hr.mono (by decide)) (jac (jv 0) (jac (jv 1) jan))) fun d h => h
omit tb
/-- a lot that is one -/
theorem lot_is {rs : List Rc} {ss : List Str} (h : isLot rs ss = true) : (lotOf rs ss).map Prod.fst = ss := by
  unfold isLot at h
  rw [Bool.and_eq_true, decide_eq_true_eq] at h
  have e : (rs.map Prod.fst).filter (fun m => decide (m ∈ ss)) = (lotOf rs ss).map Prod.fst := by
    unfold lotOf
    rw [List.filter_map]
    rfl
  rw [← e]
  exact h.2.symm
theorem lot_sub (rs : List Rc) (ss : List Str) : (lotOf rs ss).Sublist rs := List.filter_sublist
theorem lot_d {rs : List Rc} {its : List D} (h : lotQ rs (.seq true its) = true) : sT ((lotOf rs (its.map D.txt)).map Prod.fst) = .tup its := by
  replace h : (its.all D.isStr && isLot rs (its.map D.txt)) = true := h
  rw [Bool.and_eq_true] at h
  rw [lot_is h.2]
  unfold sT
  rw [← all_strs h.1]
theorem cov_q {ns : List Str} {r : Rw} (h : rowQ ns (.row r) = true) : Cov ns r := fun s hs => by
  replace h : ((r.1 ++ r.2).all fun s => decide (s ∈ srt ns)) = true := h
  rw [List.all_eq_true] at h
  exact srt_mem.mp (of_decide_eq_true (h s (List.mem_append.mpr hs)))
theorem lotQ_seq {rs : List Rc} {p : Pa} (h : lotQ rs p = true) : ∃ its, p = .seq true its := by
  cases p with
  | seq t its =>
    cases t with
    | true => exact ⟨its, rfl⟩
    | false => cases h
  | _ => cases h
theorem ordQ_ord {ns : List Str} {p : Pa} (h : ordQ ns p = true) : ∃ o, p = .ord o ∧ srt o = srt ns := by
  cases p with
  | ord o => exact ⟨o, rfl, of_decide_eq_true h⟩
  | _ => cases h
theorem rowQ_row {ns : List Str} {p : Pa} (h : rowQ ns p = true) : ∃ r, p = .row r := by
  cases p with
  | row r => exact ⟨r, rfl⟩
  | _ => cases h
theorem good_of (b : Bq) {ps : List Pa} (hp : ∀ p ∈ ps, PaOk T p) (h : papQ b.1.1 b.1.2 ps = true) : ∃ i : Gp, i.b = b ∧ i.d T = .tup (ps.map (aD T)) ∧ i.fl = flawM b.1.1 b.1.2 ps := by
  obtain ⟨⟨ns, rs⟩, hb⟩ := b
  have hf : flawIn rs ps = flawM ns rs ps := by
    unfold flawM
    rw [if_pos h]
  match ps, hp, h, hf with
  | [.str wd, p], hp, h, hf =>
    replace h : ((decide (wd = "fits") && ordQ ns p) || (decide (wd = "stuck") && lotQ rs p)) = true := h
    rw [Bool.or_eq_true, Bool.and_eq_true, Bool.and_eq_true, decide_eq_true_eq, decide_eq_true_eq] at h
    rcases h with ⟨rfl, h0⟩ | ⟨rfl, h0⟩
    · obtain ⟨o, rfl, e⟩ := ordQ_ord h0
      exact ⟨.fits ⟨(⟨(ns, rs), hb⟩, o), hp (.ord o) (by simp), e⟩, rfl, rfl, hf⟩
    · obtain ⟨its, rfl⟩ := lotQ_seq h0
      refine ⟨.stuck ⟨(⟨(ns, rs), hb⟩, lotOf rs (its.map D.txt)), lot_sub _ _⟩, rfl, ?_, hf⟩
      show D.tup [.str "stuck", sT ((lotOf rs (its.map D.txt)).map Prod.fst)] = D.tup [.str "stuck", .tup its]
      rw [lot_d h0]
  | [.str wd, p, q], hp, h, hf =>
    replace h : ((decide (wd = "follows") && (rowQ ns p && lotQ rs q)) || (decide (wd = "open") && (rowQ ns p && ordQ ns q))) = true := h
    rw [Bool.or_eq_true, Bool.and_eq_true, Bool.and_eq_true, Bool.and_eq_true, Bool.and_eq_true, decide_eq_true_eq, decide_eq_true_eq] at h
    rcases h with ⟨rfl, h1, h2⟩ | ⟨rfl, h1, h2⟩
    · obtain ⟨r, rfl⟩ := rowQ_row h1
      obtain ⟨its, rfl⟩ := lotQ_seq h2
      have hr : RwOk r := (show RwOk r ∧ _ from hp (.row r) (by simp)).1
      refine ⟨.follows ⟨(⟨(⟨(ns, rs), hb⟩, lotOf rs (its.map D.txt)), lot_sub _ _⟩, r), hr⟩, rfl, ?_, hf⟩
      show D.tup [.str "follows", rowI T r, sT ((lotOf rs (its.map D.txt)).map Prod.fst)] = D.tup [.str "follows", rowI T r, .tup its]
      rw [lot_d h2]
    · obtain ⟨r, rfl⟩ := rowQ_row h1
      obtain ⟨o, rfl, e⟩ := ordQ_ord h2
      have hr : RwOk r := (show RwOk r ∧ _ from hp (.row r) (by simp)).1
      exact ⟨.opn ⟨(⟨(⟨(ns, rs), hb⟩, o), hp (.ord o) (by simp), e⟩, r), hr, cov_q h1⟩, rfl, rfl, hf⟩
abbrev s_flaw : Stmt := top 139
theorem sc_flaw : FnScope ["book", "value"] ["book", "value"] (defScope s_flaw) := ⟨rfl, rfl, rfl, by decide +kernel, rfl, by decide +kernel, by decide +kernel⟩
abbrev P_flaw : Sp := Pro (ι := Bq × Vq T) (fun i => [i.1.d T, i.2.d T]) fun i d => d = flD (i.2.fl T i.1)
theorem K_flaw {f : Addr} {fd : FuncData} (G : Fun K "flaw" "flaw" s_flaw f fd) (F1 : Fd P w K mg base "is_paper" 7 (P_is_paper T)) (F2 : Fd P w K mg base "paper_flaw" 8 (P_paper_flaw T)) : FnOk P w K mg base CX0 9 f fd ["book", "value"] (P_flaw T) := by
  refine fn_pro (k := 8) G sc_flaw (fun i => rfl) ?_
  rintro ⟨b, v⟩ f cdv A outer s H E hr
  have nd := sc_flaw.nd
  have hform : ∀ v : Vq T, v.pap T b = false → v.fl T b = form0 := fun v h => by
    rcases v with d | ps
    · rfl
    · show flawM b.1.1 b.1.2 ps.1 = form0
      unfold flawM
      rw [if_neg (by rw [show papQ b.1.1 b.1.2 ps.1 = false from h]; decide)]
  refine ss_ifD0 (jt_not (jt_val (jd_f F1 (b, v) (hr.mono (by decide)) (jac (jv 0) (jac (jv 1) jan))))) (fun h => ss_retD (jd_tup (jac j_str (jac j_non jan))) ?_) fun h => ?_
  · show _ = flD (v.fl T b)
    rw [hform v (g4 h)]
    rfl
  · have h1 : v.pap T b = true := g3 h
    rcases v with d | ps
    · cases h1
    · obtain ⟨i, e1, e2, e3⟩ := good_of T b ps.2.1 h1
      refine ss_ret (jd_f F2 i hr (jac (j_eq (jv 0) (by rw [e1])) (jac (j_eq (jv 1) e2.symm) jan))) ?_
      rintro _ rfl
      exact congrArg flD e3
theorem F_flaw (dn : Dn K mg "flaw" s_flaw) (F1 : Fd P w K mg base "is_paper" 7 (P_is_paper T)) (F2 : Fd P w K mg base "paper_flaw" 8 (P_paper_flaw T)) : Fd P w K mg base "flaw" 9 (P_flaw T) :=
  dn.fd (fun f fd G => K_flaw T G F1 F2) fun f fd G => G.binds fun _ _ _ _ _ _ us hl => match us, hl with | [_, _], _ => rfl
end
end FD
end
section
set_option maxHeartbeats 2000000
/-! the law's own defs: tests -/
namespace FD
open PySem PySem.Spec PyProof.Rows L2
section
variable {P : Program} {w : World} {K : PySem.W.Frag} {mg : Str → Option Value} {base : Heap} (T : Mo K mg)
abbrev s_l_is_among : Stmt := top 147
theorem sc_l_is_among : FnScope ["_law_item", "_law_names_here"] ["_law_item", "_law_names_here"] (defScope s_l_is_among) := ⟨rfl, rfl, rfl, by decide +kernel, rfl, by decide +kernel, by decide +kernel⟩
def amongQ (ms : List Str) (e : D) : Bool := e.isStr && decide (e.txt ∈ ms)
abbrev P_l_is_among : Sp := Pro (ι := {d : D // Tp T d} × List Str) (fun i => [i.1.1, sL i.2]) fun i d => d = .bl (amongQ i.2 i.1.1)
theorem F_l_is_among (dn : Dn K mg "_law_is_among" s_l_is_among) : Fd P w K mg base "_law_is_among" 1 (P_l_is_among T) := by
  refine dn.fd (fun f fd G => fn_pro (k := 0) G sc_l_is_among (fun i => rfl) ?_) fun f fd G => G.binds fun _ _ _ _ _ _ us hl => match us, hl with | [_, _], _ => rfl
  rintro ⟨⟨d, ht⟩, ms⟩ f cdv A outer s H E hr
  refine ss_retD (jd_and (w := decide (d.txt ∈ ms)) (i_str T (d := d) (jv 0) ht) fun h => ?_) rfl
  obtain ⟨z, rfl⟩ := str_of h
  exact jd_one (jd_inS (ss := ms) (jv 0) (jv 1) (.inl rfl))
abbrev s_l_bears : Stmt := top 150
theorem sc_l_bears : FnScope ["_law_order_here", "_law_row_here", "_law_reason"] ["_law_order_here", "_law_row_here"] (defScope s_l_bears) := ⟨rfl, rfl, rfl, by decide +kernel, rfl, by decide +kernel, by decide +kernel⟩
/-- the law's pair, the sides tuples or lists -/
def prD (r : Rw) : D := .tup [sT r.1, sT r.2]
def prK (b : Bool) (r : Rw) : D := .tup [sLT b r.1, sLT b r.2]
theorem prK_t (r : Rw) : prK true r = prD r := rfl
def lbears (o : List Str) (r : Rw) : Bool := match o.find? fun s => decide (s ∈ r.1) || decide (s ∈ r.2) with
  | some s => decide (s ∈ r.1)
  | none => true
abbrev P_l_bears : Sp := Pro (ι := {p : List Str × Bool × Rw // p.1.length ≤ 1000}) (fun i => [sT i.1.1, prK i.1.2.1 i.1.2.2]) fun i d => d = .bl (lbears i.1.1 i.1.2.2)
theorem F_l_bears (dn : Dn K mg "_law_bears" s_l_bears) : Fd P w K mg base "_law_bears" 1 (P_l_bears) := by
  refine dn.fd (fun f fd G => fn_pro (k := 0) G sc_l_bears (fun i => rfl) ?_) fun f fd G => G.binds fun _ _ _ _ _ _ us hl => match us, hl with | [_, _], _ => rfl
  rintro ⟨⟨o, b, r⟩, hz⟩ f cdv A outer s H E hr
  replace hz : o.length ≤ 1000 := hz
  have nd := sc_l_bears.nd
  refine ss_for [2] rfl PassesOwn.never (ji (ds := o.map D.str) (jv 0) (by rw [List.length_map]; omega) (.inr rfl)) (fun its i ρ1 => (∀ s ∈ o.take i, (decide (s ∈ r.1) || decide (s ∈ r.2)) = false) ∧ ∃ a, ρ1 = [.ro (sT o), .ro (prK b r), a]) (fun its e => ⟨fun s h => by simp at h, .any, rfl⟩) ?_ ?_
  · rintro _ i d ρ1 rfl hd ⟨hn, a, rfl⟩
    obtain ⟨x, hx, rfl⟩ := map_get hd
    refine ⟨_, jg_name (i := 2) nd rfl (Or.inl rfl) (by decide), ?_⟩
    refine ss_ifD0 (jt_inS (ss := r.1) (jv 2) (jd_ix (d1 := prK b r) (jv 1) j_int at0 (.inr rfl)) (sLT_sq b r.1)) (fun h => ss_retD j_bl ?_) fun h => ?_
    · show D.bl true = .bl (lbears o r)
      unfold lbears
      rw [find_take (p := fun s => decide (s ∈ r.1) || decide (s ∈ r.2)) hx hn (by rw [h]; rfl)]
      exact congrArg D.bl h.symm
    · refine ss_ifD0 (jt_inS (ss := r.2) (jv 2) (jd_ix (d1 := prK b r) (jv 1) j_int at1 (.inr rfl)) (sLT_sq b r.2)) (fun h2 => ss_retD j_bl ?_) fun h2 => ss_nil ⟨take_more hx hn (by rw [h, h2]; rfl), _, rfl⟩
      show D.bl false = .bl (lbears o r)
      unfold lbears
      rw [find_take (p := fun s => decide (s ∈ r.1) || decide (s ∈ r.2)) hx hn (by rw [h, h2]; rfl)]
      exact congrArg D.bl h.symm
  · rintro _ ρ1 rfl ⟨hn, a, rfl⟩
    refine ss_retD j_bl ?_
    show D.bl true = .bl (lbears o r)
    unfold lbears
    rw [List.length_map, List.take_length] at hn
    rw [find_none hn]

/-! the same things -/
/-- a thing of depth n at most: None, a text, sequences of such -/
def Lk : Nat → D → Prop
  | 0, d => d = .non ∨ ∃ s, d = .str s
  | n + 1, d => Lk n d ∨ ∃ t ds, d = sqD t ds ∧ ds.length ≤ 1000 ∧ ∀ e ∈ ds, Lk n e
abbrev s_l_like : Stmt := top 145
theorem sc_l_like : FnScope ["_law_a", "_law_b", "_law_c", "_law_d"] ["_law_a", "_law_b"] (defScope s_l_like) := ⟨rfl, rfl, rfl, by decide +kernel, rfl, by decide +kernel, by decide +kernel⟩
abbrev P_l_like (n : Nat) : Sp := Pro (ι := {d : D // Lk n d}) (fun i => [i.1, i.1]) fun i d => d = .bl true
theorem lk_flat : ∀ {n : Nat} {d : D}, Lk n d → (d = .non ∨ ∃ s, d = .str s) ∨ ∃ t ds, d = sqD t ds ∧ ds.length ≤ 1000 ∧ ∃ m, n = m + 1 ∧ ∀ e ∈ ds, Lk m e
  | 0, _, h => .inl h
  | n + 1, d, h => by
    rcases h with h | ⟨t, ds, e, hz, he⟩
    · rcases lk_flat h with h | ⟨t, ds, e, hz, m, hm, he⟩
      · exact .inl h
      · exact .inr ⟨t, ds, e, hz, n, rfl, fun x hx => by subst hm; exact .inl (he x hx)⟩
    · exact .inr ⟨t, ds, e, hz, n, rfl, he⟩
theorem zip_self (ds : List D) : zipD ds ds = ds.map fun d => .tup [d, d] := by
  unfold zipD
  induction ds with
  | nil => rfl
  | cons a t ih => rw [List.zipWith_cons_cons, List.map_cons, ih]
include T in
theorem like_step (n : Nat) (dn : Dn K mg "_law_like" s_l_like) (ih : ∀ m, n = m + 1 → Fd P w K mg base "_law_like" (m + 1) (P_l_like m)) : Fd P w K mg base "_law_like" (n + 1) (P_l_like n) := by
  refine dn.fd (fun f fd G => fn_pro (k := n) G sc_l_like (fun i => rfl) ?_) fun f fd G => G.binds fun _ _ _ _ _ _ us hl => match us, hl with | [_, _], _ => rfl
  rintro ⟨d, hd⟩ f cdv A outer s H E hr
  have nd := sc_l_like.nd
  rcases lk_flat hd with h | ⟨t, ds, rfl, hz, m, rfl, he⟩
  · have key : ∀ d : D, (d = .non ∨ ∃ s, d = .str s) → Tp T d ∧ d.isDic = false ∧ d.isLst = false ∧ d.isTup = false ∧ d.isBl = false ∧ d.isInt = false := by
      rintro d (rfl | ⟨s, rfl⟩)
      · exact ⟨⟨_, rfl⟩, rfl, rfl, rfl, rfl, rfl⟩
      · exact ⟨⟨_, rfl⟩, rfl, rfl, rfl, rfl, rfl⟩
    obtain ⟨ht, h1, h2, h3, h4, h5⟩ := key d h
    refine ss_ifNo (jt_val (i_dict T (d := d) (jv 1) ht)) h1 ?_
    refine ss_ifNo (JW.t (jw_or (jt_val (i_list T (d := d) (jv 1) ht)) fun _ => jw_or1 (jt_val (i_tuple T (d := d) (jv 1) ht)))) (by rw [h2, h3]; rfl) ?_
    rcases h with rfl | ⟨z, rfl⟩
    · refine ss_ifD0 (u := true) (jt_eq (JW.t (jw_or (w := true) (jt_isN (d := .non) (jv 0)) fun h => nomatch h)) rfl) (fun _ => ss_retD (jd_and (u := true) (w := true) (jd_isN (d := .non) (jv 0)) fun _ => jd_one (jd_isN (d := .non) (jv 1))) rfl) fun h => nomatch h
    · refine ss_ifNo (JW.t (jw_or (jt_isN (d := .str z) (jv 0)) fun _ => jw_or1 (jt_isN (d := .str z) (jv 1)))) rfl ?_
      refine ss_ifNo (JW.t (jw_or (jt_neB (i_bool T (d := .str z) (jv 0) ht) (i_bool T (d := .str z) (jv 1) ht)) fun _ => jw_or1 (jt_neB (i_int T (d := .str z) (jv 0) ht) (i_int T (d := .str z) (jv 1) ht)))) rfl ?_
      refine ss_retD (jd_and (u := true) (w := true) (j_eq (jd_eqB (i_str T (d := .str z) (jv 0) ht) (i_str T (d := .str z) (jv 1) ht)) rfl) fun _ => jd_one (j_eq (jd_eqS (jv 0) (jv 1)) (by rw [decide_eq_true rfl]))) rfl
  · have ht : Tp T (sqD t ds) := by cases t <;> exact ⟨_, rfl⟩
    have hq : Sq (sqD t ds) ds := by cases t <;> first | exact .inl rfl | exact .inr rfl
    refine ss_ifNo (jt_val (i_dict T (d := sqD t ds) (jv 1) ht)) (by cases t <;> rfl) ?_
    refine ss_ifD0 (u := true) (jt_eq (JW.t (jw_or (jt_val (i_list T (d := sqD t ds) (jv 1) ht)) fun _ => jw_or1 (jt_val (i_tuple T (d := sqD t ds) (jv 1) ht)))) (by cases t <;> rfl)) (fun _ => ?_) fun h => nomatch h
    refine ss_ifNo (JW.t (jw_or (jt_neB (i_list T (d := sqD t ds) (jv 0) ht) (i_list T (d := sqD t ds) (jv 1) ht)) fun _ => jw_or1 (jt_neB (i_tuple T (d := sqD t ds) (jv 0) ht) (i_tuple T (d := sqD t ds) (jv 1) ht)))) (by cases t <;> rfl) ?_
    refine ss_retD (jd_and (u := true) (w := true) (j_eq (jd_eqI (jd_len T (d := sqD t ds) (jv 0) hq) (jd_len T (d := sqD t ds) (jv 1) hq)) (by rw [decide_eq_true rfl])) fun _ => jd_one (j_eq (jd_allc (xs := ds) (f := fun _ => true) T rfl (jd_lcm (own := [("_law_c", 2), ("_law_d", 3)]) ds (fun d => .tup [d, d]) _ rfl nd (blkOk_by (by kernel_rfl)) (ji_zip (Ps := fun z => z = [sqD t ds, sqD t ds]) T (jac (d := sqD t ds) (jv 0) (jac (d := sqD t ds) (jv 1) jan)) (by
      rintro _ rfl
      refine ⟨ds, ds, ?_, by omega, zip_self ds⟩
      cases t
      · exact .inl rfl
      · exact .inr rfl)) fun e hm => ⟨_, fun _ _ _ _ _ => jg_two (i := 2) (j := 3) rfl nd rfl (by first | exact Or.inl rfl | exact Or.inr rfl) rfl (by first | exact Or.inl rfl | exact Or.inr rfl) (by decide) (by decide) rfl, fun _ _ _ _ _ => jd_f (ih m rfl) ⟨e, he e hm⟩ hr (jac (jv 2) (jac (jv 3) jan))⟩)) (by rw [List.all_eq_true.mpr fun _ _ => rfl]))) rfl
include T in
theorem F_l_like (dn : Dn K mg "_law_like" s_l_like) : ∀ n, Fd P w K mg base "_law_like" (n + 1) (P_l_like n)
  | 0 => like_step T 0 dn fun m h => nomatch h
  | n + 1 => like_step T (n + 1) dn fun m h => by cases h; exact F_l_like dn n
abbrev s_l_is_lot : Stmt := top 148
theorem sc_l_is_lot : FnScope ["_law_item", "_law_marks", "_law_spots", "_law_x"] ["_law_item", "_law_marks"] (defScope s_l_is_lot) := ⟨rfl, rfl, rfl, by decide +kernel, rfl, by decide +kernel, by decide +kernel⟩
/-- the law's look at a lot -/
def lotS (ms : List Str) (ss : List Str) : Bool := ss.all (fun s => decide (s ∈ ms)) && decide ((ss.map fun s => ((ms.idxOf s : Nat) : Int)) = srtI (dd (ss.map fun s => ((ms.idxOf s : Nat) : Int))))
def lotL (ms : List Str) : Pa → Bool
  | .seq true its => its.all D.isStr && lotS ms (its.map D.txt)
  | _ => false
/-- not many items -/
def few : Pa → Prop
  | .seq _ its => its.length < 64
  | _ => True
/-- before it is asked -/
def pD : Pa → D
  | .non => .non
  | .bl b => .bl b
  | .int i => .int i
  | .str s => .str s
  | .seq t its => sqD t its
  | .dic => .dic [("dict", .int 0)]
  | .ord o => .dic [("order", sT o)]
  | .row r => .dic [("row", prD r)]
theorem tp_pD (p : Pa) : Tp T (pD p) := by
  cases p with
  | seq t its => cases t <;> exact ⟨_, rfl⟩
  | _ => exact ⟨_, rfl⟩
abbrev P_l_is_lot : Sp := Pro (ι := {p : Pa × List Str // PaOk T p.1 ∧ few p.1}) (fun i => [pD i.1.1, sL i.1.2]) fun i d => d = .bl (lotL i.1.2 i.1.1)
theorem among_all (ms : List Str) (its : List D) : its.all (amongQ ms) = (its.all D.isStr && (its.map D.txt).all fun s => decide (s ∈ ms)) := by
  induction its with
  | nil => rfl
  | cons a t ih =>
    rw [List.all_cons, List.all_cons, List.map_cons, List.all_cons, ih]
    unfold amongQ
    cases a.isStr <;> cases decide (a.txt ∈ ms) <;> cases t.all D.isStr <;> rfl
theorem F_l_is_lot (dn : Dn K mg "_law_is_lot" s_l_is_lot) (F1 : Fd P w K mg base "_law_is_among" 1 (P_l_is_among T)) : Fd P w K mg base "_law_is_lot" 2 (P_l_is_lot T) := by
  refine dn.fd (fun f fd G => fn_pro (k := 1) G sc_l_is_lot (fun i => rfl) ?_) fun f fd G => G.binds fun _ _ _ _ _ _ us hl => match us, hl with | [_, _], _ => rfl
  rintro ⟨⟨p, ms⟩, hp, hf⟩ f cdv A outer s H E hr
  have nd := sc_l_is_lot.nd
  by_cases hq : ∃ its, p = .seq true its
  · obtain ⟨its, rfl⟩ := hq
    replace hp : its.length ≤ 1000 ∧ ∀ e ∈ its, ItOk T e := hp
    replace hf : its.length < 64 := hf
    have done : ∀ u : Bool, lotL ms (.seq true its) = u → (poOf fun d => d = .bl (lotL ms (.seq true its))).R (.bl u) := fun u e => congrArg D.bl e.symm
    refine ss_ifD0 (u := !(its.all (amongQ ms))) (jt_eq (JW.t (jw_or (jt_not (jt_val (i_tuple T (d := .tup its) (jv 0) ⟨_, rfl⟩))) fun _ => jw_or1 (jt_not (jt_val (jd_allc (xs := its) (f := amongQ ms) T rfl (jd_lcm (own := [("_law_x", 3)]) its id _ rfl nd (blkOk_by (by kernel_rfl)) (ji (ds := its.map id) (jv 0) (by rw [List.length_map]; omega) (.inr (by rw [List.map_id]; rfl))) fun e he => ⟨_, fun _ _ _ _ _ => jg_name (i := 3) nd rfl (by first | exact Or.inl rfl | exact Or.inr rfl) (by decide), fun _ _ _ _ _ => jd_f F1 (⟨e, (hp.2 e he).1⟩, ms) hr (jac (jv 3) (jac (jv 1) jan))⟩)))))) (Bool.false_or _)) (fun h => ss_retD j_bl (done false ?_)) fun h => ?_
    · have h2 : its.all (amongQ ms) = false := g4 h
      rw [among_all] at h2
      show (its.all D.isStr && lotS ms (its.map D.txt)) = false
      unfold lotS
      rw [← Bool.and_assoc, h2]
      rfl
    · have h2 : its.all (amongQ ms) = true := g3 h
      rw [among_all, Bool.and_eq_true] at h2
      have e := all_strs h2.1
      let ss := its.map D.txt
      let ix := ss.map fun s => ((ms.idxOf s : Nat) : Int)
      have hin : ∀ s ∈ ss, s ∈ ms := fun s hs => by
        have := List.all_eq_true.mp h2.2 s hs
        simpa using this
      refine ss_setLc 2 (own := [("_law_x", 3)]) (Pi := fun z => z = ss.map D.str) rfl nd (blkOk_by (by kernel_rfl)) (ji (ds := ss.map D.str) (jv 0) (by rw [List.length_map, List.length_map]; omega) (.inr (by show D.tup its = D.tup ((its.map D.txt).map D.str); rw [← e]))) (fun its i acc => acc = (ix.take i).map D.int) (fun _ _ => rfl) ?_ ?_
      · rintro _ i d acc rfl hd rfl _
        obtain ⟨x, hx, rfl⟩ := map_get hd
        have hl : i < ss.length := by
          rcases Nat.lt_or_ge i ss.length with h1 | h1
          · exact h1
          · rw [List.getElem?_eq_none h1] at hx; cases hx
        have hli : i < ix.length := by show i < (ss.map _).length; rw [List.length_map]; exact hl
        refine ⟨_, fun z => z = true, fun z => z = .int (ms.idxOf x : Nat), fun _ _ _ _ _ => jg_name (i := 3) nd rfl (by first | exact Or.inl rfl | exact Or.inr rfl) (by decide), fun _ _ _ _ _ => jf_nil, fun _ => ⟨fun _ _ _ _ _ => jd_index (jv 1) (jv 3) (hin x (List.mem_of_getElem? hx)), ?_⟩, fun h => by cases h⟩
        rintro _ rfl
        rw [List.take_succ_eq_append_getElem hli, List.map_append]
        congr 1
        show _ = [D.int ((ss.map fun s => ((ms.idxOf s : Nat) : Int))[i]'hli)]
        rw [List.getElem_map]
        rw [List.getElem?_eq_getElem hl] at hx
        cases hx
        rfl
      rintro _ acc rfl rfl _
      have eix : ix.take (ss.map D.str).length = ix := by
        rw [List.take_of_length_le]
        show (ss.map _).length ≤ (ss.map _).length
        rw [List.length_map (as := ss), List.length_map (as := ss)]
        exact Nat.le_refl _
      rw [eix]
      refine ss_frz 2 rfl ?_
      have h64 : ix.length < 64 := by show (ss.map _).length < 64; rw [List.length_map, List.length_map]; exact hf
      refine ss_retD (j_eq (jd_eqD hr.units (jv 2) (jd_sortsetI (ns := ix) T rfl (jv 2) h64 (.inl rfl)) toPy_intsL toPy_intsL shaped_intsL shaped_intsL) (d2 := .bl (decide (ix = srtI (dd ix)))) (by simp only [PyData.eqv, eqvAll_ints])) (done _ ?_)
      show (its.all D.isStr && (_ && decide (ix = srtI (dd ix)))) = _
      rw [h2.1, h2.2]
      rfl
  · have h0 : (pD p).isTup = false ∧ lotL ms p = false := by
      cases p with
      | seq t its =>
        cases t with
        | true => exact absurd ⟨its, rfl⟩ hq
        | false => exact ⟨rfl, rfl⟩
      | _ => exact ⟨rfl, rfl⟩
    refine ss_ifD0 (u := true) (jt_eq (JW.t (jw_or (w := true) (jt_not (jt_val (i_tuple T (d := pD p) (jv 0) (tp_pD T p)))) fun h => by rw [h0.1] at h; cases h)) (by rw [h0.1]; rfl)) (fun _ => ss_retD j_bl (congrArg D.bl h0.2.symm)) fun h => nomatch h
end
end FD
end
section
set_option maxHeartbeats 2000000
/-! the law's own defs: real things, parts -/
namespace FD
open PySem PySem.Spec PyProof.Rows L2
section
variable {P : Program} {w : World} {K : PySem.W.Frag} {mg : Str → Option Value} {base : Heap} (T : Mo K mg)
abbrev s_l_order : Stmt := top 157
theorem sc_l_order : FnScope ["_law_names_here"] ["_law_names_here"] (defScope s_l_order) := ⟨rfl, rfl, rfl, by decide +kernel, rfl, by decide +kernel, by decide +kernel⟩
abbrev P_l_order : Sp := Pro (ι := {o : List Str // OrOk o}) (fun i => [sT i.1]) fun i d => d = ordI T i.1
theorem F_l_order (dn : Dn K mg "_law_order" s_l_order) (F1 : St P w K mg base T.cO T.mcl "read" 5 (P_read T)) : Fd P w K mg base "_law_order" 6 (P_l_order T) := by
  refine dn.fd (fun f fd G => fn_pro (k := 5) G sc_l_order (fun i => rfl) ?_) fun f fd G => G.binds fun _ _ _ _ _ _ us hl => match us, hl with | [_], _ => rfl
  rintro ⟨o, ho⟩ f cdv A outer s H E hr
  obtain ⟨q, fa, c, F1⟩ := F1.ex
  have hz : (o.map (·.length)).sum + o.length * (" > " : Str).length ≤ 16777216 := by
    have h1 := sum_le o fun s hs => nm_len (ho.n.ok s hs)
    have h2 := ho.f7
    have h3 : (" > " : Str).length = 3 := rfl
    rw [h3]
    omega
  exact ss_ret (jd_stm c F1 ⟨o, ho⟩ hr T.gO (jac (jd_join (ss := o) j_str (jv 0) hz (.inr rfl)) jan)) fun d h => h
abbrev s_l_real_row : Stmt := top 155
theorem sc_l_real_row : FnScope ["_law_row_here"] ["_law_row_here"] (defScope s_l_real_row) := ⟨rfl, rfl, rfl, by decide +kernel, rfl, by decide +kernel, by decide +kernel⟩
abbrev P_l_real_row : Sp := Pro (ι := {r : Rw // RwOk r}) (fun i => [prD i.1]) fun i d => d = rowI T (rowS i.1)
theorem F_l_real_row (dn : Dn K mg "_law_real_row" s_l_real_row) (F1 : Mc P w K mg base T.cR 4 (P_Row T)) : Fd P w K mg base "_law_real_row" 6 (P_l_real_row T) := by
  refine dn.fd (fun f fd G => fn_pro (k := 5) G sc_l_real_row (fun i => rfl) ?_) fun f fd G => G.binds fun _ _ _ _ _ _ us hl => match us, hl with | [_], _ => rfl
  rintro ⟨r, hr0⟩ f cdv A outer s H E hr
  exact ss_ret (jd_mk F1 ⟨r, hr0⟩ hr T.gR (jac (jd_list T (d := sT r.1) (jd_ix (d1 := prD r) (jv 0) j_int at0 (.inr rfl)) (.inr rfl)) (jac (jd_list T (d := sT r.2) (jd_ix (d1 := prD r) (jv 0) j_int at1 (.inr rfl)) (.inr rfl)) jan))) fun d h => h
/-- what becomes of a thing of depth n at most -/
def Rl : Nat → D → D → Prop
  | 0, d, d' => (d.flat = true ∧ d' = d) ∨ (∃ o, OrOk o ∧ d = .dic [("order", sT o)] ∧ d' = ordI T o) ∨ (∃ r, RwOk r ∧ d = .dic [("row", prD r)] ∧ d' = rowI T (rowS r)) ∨ (d = .dic [("dict", .int 0)] ∧ d' = .dic [("a", .int 1)])
  | n + 1, d, d' => Rl n d d' ∨ ∃ t, ∃ ps : List (D × D), d = sqD t (ps.map Prod.fst) ∧ d' = sqD t (ps.map Prod.snd) ∧ ps.length ≤ 1000 ∧ ∀ p ∈ ps, Rl n p.1 p.2
theorem rl_split : ∀ {n : Nat} {d d' : D}, Rl T n d d' → Rl T 0 d d' ∨ ∃ m t, ∃ ps : List (D × D), n = m + 1 ∧ d = sqD t (ps.map Prod.fst) ∧ d' = sqD t (ps.map Prod.snd) ∧ ps.length ≤ 1000 ∧ ∀ p ∈ ps, Rl T m p.1 p.2
  | 0, _, _, h => .inl h
  | n + 1, d, d', h => by
    rcases h with h | ⟨t, ps, e1, e2, hz, he⟩
    · rcases rl_split h with h | ⟨m, t, ps, e0, e1, e2, hz, he⟩
      · exact .inl h
      · exact .inr ⟨n, t, ps, rfl, e1, e2, hz, fun p hp => by subst e0; exact .inl (he p hp)⟩
    · exact .inr ⟨n, t, ps, rfl, e1, e2, hz, he⟩
abbrev s_l_real : Stmt := top 167
theorem sc_l_real : FnScope ["_law_part", "_law_x"] ["_law_part"] (defScope s_l_real) := ⟨rfl, rfl, rfl, by decide +kernel, rfl, by decide +kernel, by decide +kernel⟩
abbrev P_l_real (n : Nat) : Sp := Pro (ι := {p : D × D // Rl T n p.1 p.2}) (fun i => [i.1.1]) fun i d => d = i.1.2
theorem real_step (n : Nat) (dn : Dn K mg "_law_real" s_l_real) (F1 : Fd P w K mg base "_law_order" 6 (P_l_order T)) (F2 : Fd P w K mg base "_law_real_row" 6 (P_l_real_row T)) (ih : ∀ m, n = m + 1 → Fd P w K mg base "_law_real" (m + 7) (P_l_real T m)) : Fd P w K mg base "_law_real" (n + 7) (P_l_real T n) := by
  refine dn.fd (fun f fd G => fn_pro (k := n + 6) G sc_l_real (fun i => rfl) ?_) fun f fd G => G.binds fun _ _ _ _ _ _ us hl => match us, hl with | [_], _ => rfl
  rintro ⟨⟨d, d'⟩, hd⟩ f cdv A outer s H E hr
  have nd := sc_l_real.nd
  have hu := hu_of hr
  rcases rl_split T (d := d) (d' := d') hd with h | ⟨m, t, ps, rfl, rfl, rfl, hz, he⟩
  · rcases h with ⟨hf, rfl⟩ | ⟨o, ho, rfl, rfl⟩ | ⟨r, hr0, rfl, rfl⟩ | ⟨rfl, rfl⟩
    · have ht : Tp T d' := by cases d' <;> first | exact ⟨_, rfl⟩ | cases hf
      have h1 : d'.isDic = false := by cases d' <;> first | rfl | cases hf
      have h2 : d'.isTup = false := by cases d' <;> first | rfl | cases hf
      have h3 : d'.isLst = false := by cases d' <;> first | rfl | cases hf
      refine ss_ifNo (JW.t (jw_and (w := true) (jt_val (i_dict T (d := d') (jv 0) ht)) fun h => by rw [h1] at h; cases h)) (by rw [h1]; rfl) ?_
      refine ss_ifNo (JW.t (jw_and (w := true) (jt_val (i_dict T (d := d') (jv 0) ht)) fun h => by rw [h1] at h; cases h)) (by rw [h1]; rfl) ?_
      refine ss_ifNo (JW.t (jw_and (w := true) (jt_val (i_dict T (d := d') (jv 0) ht)) fun h => by rw [h1] at h; cases h)) (by rw [h1]; rfl) ?_
      refine ss_ifNo (jt_val (i_dict T (d := d') (jv 0) ht)) h1 ?_
      refine ss_ifNo (jt_val (i_tuple T (d := d') (jv 0) ht)) h2 ?_
      exact ss_ret (P := fun z => z = d') (j_if (jt_val (i_list T (d := d') (jv 0) ht)) (fun h => by rw [h3] at h; cases h) fun _ => jv 0) fun d h => h
    · refine ss_ifD0 (u := true) (jt_eq (JW.t (jw_and (jt_val (i_dict T (d := .dic [("order", sT o)]) (jv 0) ⟨_, rfl⟩)) fun _ => jw_and1 (jt_din hu j_str (jv 0)))) rfl) (fun _ => ?_) fun h => nomatch h
      exact ss_ret (jd_f F1 ⟨o, ho⟩ (hr.mono (by omega)) (jac (jd_dget hu (d := sT o) (jv 0) j_str rfl) jan)) fun d h => h
    · refine ss_ifNo (JW.t (jw_and (jt_val (i_dict T (d := .dic [("row", prD r)]) (jv 0) ⟨_, rfl⟩)) fun _ => jw_and1 (jt_din hu j_str (jv 0)))) rfl ?_
      refine ss_ifD0 (u := true) (jt_eq (JW.t (jw_and (jt_val (i_dict T (d := .dic [("row", prD r)]) (jv 0) ⟨_, rfl⟩)) fun _ => jw_and1 (jt_din hu j_str (jv 0)))) rfl) (fun _ => ?_) fun h => nomatch h
      exact ss_ret (jd_f F2 ⟨r, hr0⟩ (hr.mono (by omega)) (jac (jd_dget hu (d := prD r) (jv 0) j_str rfl) jan)) fun d h => h
    · refine ss_ifNo (JW.t (jw_and (jt_val (i_dict T (d := .dic [("dict", .int 0)]) (jv 0) ⟨_, rfl⟩)) fun _ => jw_and1 (jt_din hu j_str (jv 0)))) rfl ?_
      refine ss_ifNo (JW.t (jw_and (jt_val (i_dict T (d := .dic [("dict", .int 0)]) (jv 0) ⟨_, rfl⟩)) fun _ => jw_and1 (jt_din hu j_str (jv 0)))) rfl ?_
      refine ss_ifNo (JW.t (jw_and (jt_val (i_dict T (d := .dic [("dict", .int 0)]) (jv 0) ⟨_, rfl⟩)) fun _ => jw_and1 (jt_din hu j_str (jv 0)))) rfl ?_
      refine ss_ifD0 (u := true) (jt_eq (jt_val (i_dict T (d := .dic [("dict", .int 0)]) (jv 0) ⟨_, rfl⟩)) rfl) (fun _ => ?_) fun h => nomatch h
      exact ss_ret (P := fun z => z = .dic [("a", .int 1)]) (jp_dic1 (kx := .Name "x" ⟨0, 0, 0, 0⟩) j_int (by rintro _ rfl; rfl)) fun d h => h
  · have ht : Tp T (sqD t (ps.map Prod.fst)) := by cases t <;> exact ⟨_, rfl⟩
    have h1 : (sqD t (ps.map Prod.fst)).isDic = false := by cases t <;> rfl
    refine ss_ifNo (JW.t (jw_and (w := true) (jt_val (i_dict T (d := sqD t (ps.map Prod.fst)) (jv 0) ht)) fun h => by rw [h1] at h; cases h)) (by rw [h1]; rfl) ?_
    refine ss_ifNo (JW.t (jw_and (w := true) (jt_val (i_dict T (d := sqD t (ps.map Prod.fst)) (jv 0) ht)) fun h => by rw [h1] at h; cases h)) (by rw [h1]; rfl) ?_
    refine ss_ifNo (JW.t (jw_and (w := true) (jt_val (i_dict T (d := sqD t (ps.map Prod.fst)) (jv 0) ht)) fun h => by rw [h1] at h; cases h)) (by rw [h1]; rfl) ?_
    refine ss_ifNo (jt_val (i_dict T (d := sqD t (ps.map Prod.fst)) (jv 0) ht)) h1 ?_
    have hzz : (ps.map Prod.fst).length ≤ 1000000 := by rw [List.length_map]; omega
    cases t with
    | true =>
      refine ss_ifD0 (u := true) (jt_eq (jt_val (i_tuple T (d := .tup (ps.map Prod.fst)) (jv 0) ⟨_, rfl⟩)) rfl) (fun _ => ?_) fun h => nomatch h
      exact ss_retD (jd_tuple T (ds := ps.map Prod.snd) (jd_lcm (own := [("_law_x", 1)]) ps Prod.fst Prod.snd rfl nd (blkOk_by (by kernel_rfl)) (ji (ds := ps.map Prod.fst) (jv 0) hzz (.inr rfl)) fun p hp => ⟨_, fun _ _ _ _ _ => jg_name (i := 1) nd rfl (by first | exact Or.inl rfl | exact Or.inr rfl) (by decide), fun _ _ _ _ _ => jd_f (ih m rfl) ⟨p, he p hp⟩ hr (jac (jv 1) jan)⟩) (.inl rfl)) rfl
    | false =>
      refine ss_ifNo (jt_val (i_tuple T (d := .lst (ps.map Prod.fst)) (jv 0) ⟨_, rfl⟩)) rfl ?_
      exact ss_ret (P := fun z => z = .lst (ps.map Prod.snd)) (j_if (jt_val (i_list T (d := .lst (ps.map Prod.fst)) (jv 0) ⟨_, rfl⟩)) (fun _ => jd_lcm (own := [("_law_x", 1)]) ps Prod.fst Prod.snd rfl nd (blkOk_by (by kernel_rfl)) (ji (ds := ps.map Prod.fst) (jv 0) hzz (.inl rfl)) fun p hp => ⟨_, fun _ _ _ _ _ => jg_name (i := 1) nd rfl (by first | exact Or.inl rfl | exact Or.inr rfl) (by decide), fun _ _ _ _ _ => jd_f (ih m rfl) ⟨p, he p hp⟩ hr (jac (jv 1) jan)⟩) fun h => nomatch h) fun d h => h
theorem F_l_real (dn : Dn K mg "_law_real" s_l_real) (F1 : Fd P w K mg base "_law_order" 6 (P_l_order T)) (F2 : Fd P w K mg base "_law_real_row" 6 (P_l_real_row T)) : ∀ n, Fd P w K mg base "_law_real" (n + 7) (P_l_real T n)
  | 0 => real_step T 0 dn F1 F2 fun m h => nomatch h
  | n + 1 => real_step T (n + 1) dn F1 F2 fun m h => by cases h; exact F_l_real dn F1 F2 n
/-! parts -/
abbrev s_l_is_order_part : Stmt := top 168
theorem sc_l_is_order_part : FnScope ["_law_part", "_law_names_here"] ["_law_part", "_law_names_here"] (defScope s_l_is_order_part) := ⟨rfl, rfl, rfl, by decide +kernel, rfl, by decide +kernel, by decide +kernel⟩
abbrev P_l_iop : Sp := Pro (ι := {p : Pa × List Str // PaOk T p.1 ∧ Nms p.2 ∧ p.2.length ≤ 7}) (fun i => [pD i.1.1, sL i.1.2]) fun i d => d = .bl (ordQ i.1.2 i.1.1)
theorem F_l_iop (dn : Dn K mg "_law_is_order_part" s_l_is_order_part) : Fd P w K mg base "_law_is_order_part" 1 (P_l_iop T) := by
  refine dn.fd (fun f fd G => fn_pro (k := 0) G sc_l_is_order_part (fun i => rfl) ?_) fun f fd G => G.binds fun _ _ _ _ _ _ us hl => match us, hl with | [_, _], _ => rfl
  rintro ⟨⟨p, ns⟩, hp, hn, h7⟩ f cdv A outer s H E hr
  replace hn : Nms ns := hn
  replace h7 : ns.length ≤ 7 := h7
  have hu := hu_of hr
  have other : ∀ p : Pa, (pD p).isDic = false → ordQ ns p = false → SS (Xc P w K mg base ["_law_part", "_law_names_here"] "_law_is_order_part" s_l_is_order_part f cdv A outer s H E) none (poOf fun d => d = .bl (ordQ ns p)) [.ro (pD p), .ro (sL ns)] (defBody s_l_is_order_part) := fun p h1 h2 => by
    refine ss_retD (jd_and (w := true) (i_dict T (d := pD p) (jv 0) (tp_pD T p)) fun h => by rw [h1] at h; cases h) ?_
    show D.bl ((pD p).isDic && true) = .bl (ordQ ns p)
    rw [h1, h2]
    rfl
  cases p with
  | ord o =>
    have ho : OrOk o := hp
    have o7 := ho.f7
    refine ss_retD (jd_and (u := true) (w := decide (srt o = srt ns)) (i_dict T (d := .dic [("order", sT o)]) (jv 0) ⟨_, rfl⟩) fun _ => jd_and (u := true) (j_eq (jd_din hu (kvs := [("order", sT o)]) j_str (jv 0)) rfl) fun _ => jd_one (jd_eqSL hr.units (jd_sorted T (ss := o) (jd_dget hu (d := sT o) (jv 0) j_str rfl) (by omega) (.inr rfl)) (jd_sorted T (ss := ns) (jv 1) (by omega) (.inl rfl)) (srt_nms ho.n).sok (srt_nms hn).sok)) rfl
  | row r => exact ss_retD (jd_and (u := true) (w := false) (i_dict T (d := .dic [("row", prD r)]) (jv 0) ⟨_, rfl⟩) fun _ => jd_and (u := false) (w := true) (j_eq (jd_din hu (kvs := [("row", prD r)]) j_str (jv 0)) rfl) fun h => nomatch h) rfl
  | dic => exact ss_retD (jd_and (u := true) (w := false) (i_dict T (d := .dic [("dict", .int 0)]) (jv 0) ⟨_, rfl⟩) fun _ => jd_and (u := false) (w := true) (j_eq (jd_din hu (kvs := [("dict", .int 0)]) j_str (jv 0)) rfl) fun h => nomatch h) rfl
  | seq t its => exact other (.seq t its) (by cases t <;> rfl) rfl
  | non => exact other .non rfl rfl
  | bl b => exact other (.bl b) rfl rfl
  | int b => exact other (.int b) rfl rfl
  | str b => exact other (.str b) rfl rfl
abbrev s_l_is_row_part : Stmt := top 169
theorem sc_l_is_row_part : FnScope ["_law_part", "_law_names_here", "_law_x"] ["_law_part", "_law_names_here"] (defScope s_l_is_row_part) := ⟨rfl, rfl, rfl, by decide +kernel, rfl, by decide +kernel, by decide +kernel⟩
def rowL (ns : List Str) : Pa → Bool
  | .row r => (r.1 ++ r.2).all fun s => decide (s ∈ ns)
  | _ => false
abbrev P_l_irp : Sp := Pro (ι := {p : Pa × List Str // PaOk T p.1}) (fun i => [pD i.1.1, sL i.1.2]) fun i d => d = .bl (rowL i.1.2 i.1.1)
theorem F_l_irp (dn : Dn K mg "_law_is_row_part" s_l_is_row_part) : Fd P w K mg base "_law_is_row_part" 1 (P_l_irp T) := by
  refine dn.fd (fun f fd G => fn_pro (k := 0) G sc_l_is_row_part (fun i => rfl) ?_) fun f fd G => G.binds fun _ _ _ _ _ _ us hl => match us, hl with | [_, _], _ => rfl
  rintro ⟨⟨p, ns⟩, hp⟩ f cdv A outer s H E hr
  have hu := hu_of hr
  have nd := sc_l_is_row_part.nd
  have other : ∀ p : Pa, (pD p).isDic = false → rowL ns p = false → SS (Xc P w K mg base ["_law_part", "_law_names_here", "_law_x"] "_law_is_row_part" s_l_is_row_part f cdv A outer s H E) none (poOf fun d => d = .bl (rowL ns p)) [.ro (pD p), .ro (sL ns), .any] (defBody s_l_is_row_part) := fun p h1 h2 => by
    refine ss_retD (jd_and (w := true) (i_dict T (d := pD p) (jv 0) (tp_pD T p)) fun h => by rw [h1] at h; cases h) ?_
    show D.bl ((pD p).isDic && true) = .bl (rowL ns p)
    rw [h1, h2]
    rfl
  cases p with
  | row r =>
    replace hp : RwOk r ∧ _ := hp
    have f1 := hp.1.f1
    have f2 := hp.1.f2
    have hlen : ((r.1 ++ r.2).map D.str).length ≤ 16 := by rw [List.length_map, List.length_append]; omega
    refine ss_retD (jd_and (u := true) (i_dict T (d := .dic [("row", prD r)]) (jv 0) ⟨_, rfl⟩) fun _ => jd_and (u := true) (j_eq (jd_din hu (kvs := [("row", prD r)]) j_str (jv 0)) rfl) fun _ => jd_one (jd_allc (xs := r.1 ++ r.2) (f := fun s => decide (s ∈ ns)) T rfl (jd_lcm (own := [("_law_x", 2)]) (r.1 ++ r.2) D.str _ rfl nd (blkOk_by (by kernel_rfl)) (ji (ds := (r.1 ++ r.2).map D.str) (j_eq (d2 := .tup ((r.1 ++ r.2).map D.str)) (jd_catT (ds := r.1.map D.str) (ds' := r.2.map D.str) (jd_ix (d1 := prD r) (jd_dget hu (d := prD r) (jv 0) j_str rfl) j_int at0 (.inr rfl)) (jd_ix (d1 := prD r) (jd_dget hu (d := prD r) (jv 0) j_str rfl) j_int at1 (.inr rfl)) (by rw [List.length_map, List.length_map, sizeLine_eq]; omega)) (by rw [List.map_append])) (by omega) (.inr rfl)) fun s _ => ⟨_, fun _ _ _ _ _ => jg_name (i := 2) nd rfl (by first | exact Or.inl rfl | exact Or.inr rfl) (by decide), fun _ _ _ _ _ => jd_inS (ss := ns) (jv 2) (jv 1) (.inl rfl)⟩))) rfl
  | ord o => exact ss_retD (jd_and (u := true) (w := false) (i_dict T (d := .dic [("order", sT o)]) (jv 0) ⟨_, rfl⟩) fun _ => jd_and (u := false) (w := true) (j_eq (jd_din hu (kvs := [("order", sT o)]) j_str (jv 0)) rfl) fun h => nomatch h) rfl
  | dic => exact ss_retD (jd_and (u := true) (w := false) (i_dict T (d := .dic [("dict", .int 0)]) (jv 0) ⟨_, rfl⟩) fun _ => jd_and (u := false) (w := true) (j_eq (jd_din hu (kvs := [("dict", .int 0)]) j_str (jv 0)) rfl) fun h => nomatch h) rfl
  | seq t its => exact other (.seq t its) (by cases t <;> rfl) rfl
  | non => exact other .non rfl rfl
  | bl b => exact other (.bl b) rfl rfl
  | int b => exact other (.int b) rfl rfl
  | str b => exact other (.str b) rfl rfl
end
end FD
end
section
set_option maxHeartbeats 2000000
/-! the law's own defs: what is due -/
namespace FD
open PySem PySem.Spec PyProof.Rows L2
/-! deep things that compare -/
structure Py (d : D) (p : PyData) : Prop where
  e : toPy d = some p
  c : p.canLay0 = true
  f : p.depth ≤ 20
structure Pys (n : Nat) (ds : List D) (ps : List PyData) : Prop where
  e : toPys ds = some ps
  c : PyData.canLayAll0 ps = true
  f : PyData.depthAll ps ≤ n
theorem Pys.nil {n : Nat} : Pys n [] [] := ⟨rfl, rfl, Nat.zero_le _⟩
theorem Pys.strs {ss : List Str} (h : SOk ss) : Pys 0 (ss.map D.str) (ss.map PyData.str) := ⟨toPys_strs ss, canLay_strs h, by rw [depth_strs]; exact Nat.le_refl _⟩
/-- a row's two sides -/
def pyR (r : Rw) : PyData := .tuple [.tuple (r.1.map PyData.str), .tuple (r.2.map PyData.str)]
theorem py_row {r : Rw} (h1 : SOk r.1) (h2 : SOk r.2) : toPy (prD r) = some (pyR r) ∧ (pyR r).canLay0 = true ∧ (pyR r).depth = 2 := by
  refine ⟨?_, ?_, ?_⟩
  · show toPy (.tup [.tup (r.1.map D.str), .tup (r.2.map D.str)]) = _
    simp [toPy, toPys, toPys_strs, pyR]
  · simp [pyR, PyData.canLay0, PyData.canLayAll0, canLay_strs h1, canLay_strs h2]
  · simp [pyR, PyData.depth, PyData.depthAll, depth_strs]
theorem eqv_row (r r' : Rw) : PyData.eqv (pyR r) (pyR r') = decide (r = r') := by
  obtain ⟨a, b⟩ := r
  obtain ⟨a', b'⟩ := r'
  simp only [pyR, PyData.eqv, PyData.eqvAll, eqvAll_strs, Bool.and_true]
  by_cases h1 : a = a' <;> by_cases h2 : b = b' <;> simp [h1, h2]
theorem sh_row {r : Rw} (h1 : SOk r.1) (h2 : SOk r.2) : SeqAt.shaped (pyR r) = true := by
  unfold SeqAt.shaped
  rw [(py_row h1 h2).2.1, (py_row h1 h2).2.2]
  rfl
section
variable {X : Cx} {g : Bg} {ρ : List Slot} {a b c e : Expr} {d : D} {pos : Pos} {r r' : Rw} {ss zs : List Str}
theorem jt_eqRw (hu : X.A.units + 64 < cLine) (ha : JD X g ρ a (prD r)) (hb : JD X g ρ b (prD r')) (h1 : SOk r.1) (h2 : SOk r.2) (h3 : SOk r'.1) (h4 : SOk r'.2) : JTD X g ρ (.Compare a [.Eq] [b] pos) (decide (r = r')) :=
  eqv_row r r' ▸ jt_eqD hu ha hb (py_row h1 h2).1 (py_row h3 h4).1 (sh_row h1 h2) (sh_row h3 h4)
theorem jt_neRw (hu : X.A.units + 64 < cLine) (ha : JD X g ρ a (prD r)) (hb : JD X g ρ b (prD r')) (h1 : SOk r.1) (h2 : SOk r.2) (h3 : SOk r'.1) (h4 : SOk r'.2) : JTD X g ρ (.Compare a [.NotEq] [b] pos) (!decide (r = r')) :=
  eqv_row r r' ▸ jt_neD hu ha hb (py_row h1 h2).1 (py_row h3 h4).1 (sh_row h1 h2) (sh_row h3 h4)
theorem jt_neSL (hu : X.A.units + 64 < cLine) (ha : JD X g ρ a (sL ss)) (hb : JD X g ρ b (sL zs)) (h1 : SOk ss) (h2 : SOk zs) : JTD X g ρ (.Compare a [.NotEq] [b] pos) (!decide (ss = zs)) :=
  eqv_strsL ▸ jt_neD hu ha hb toPy_strsL toPy_strsL (shaped_strsL h1) (shaped_strsL h2)
theorem jt_eqSL (hu : X.A.units + 64 < cLine) (ha : JD X g ρ a (sL ss)) (hb : JD X g ρ b (sL zs)) (h1 : SOk ss) (h2 : SOk zs) : JTD X g ρ (.Compare a [.Eq] [b] pos) (decide (ss = zs)) :=
  eqv_strsL ▸ jt_eqD hu ha hb toPy_strsL toPy_strsL (shaped_strsL h1) (shaped_strsL h2)
theorem jt_eqST2 (hu : X.A.units + 64 < cLine) (ha : JD X g ρ a (sT ss)) (hb : JD X g ρ b (sT zs)) (h1 : SOk ss) (h2 : SOk zs) : JTD X g ρ (.Compare a [.Eq] [b] pos) (decide (ss = zs)) :=
  eqv_strsT ▸ jt_eqD hu ha hb toPy_strsT toPy_strsT (shaped_strsT h1) (shaped_strsT h2)
theorem toPys_rows : ∀ {rows : List Rw}, (∀ r ∈ rows, SOk r.1 ∧ SOk r.2) → toPys (rows.map prD) = some (rows.map pyR) ∧ PyData.canLayAll0 (rows.map pyR) = true ∧ PyData.depthAll (rows.map pyR) ≤ 2
  | [], _ => ⟨rfl, rfl, Nat.zero_le _⟩
  | r :: rows, h => by
    obtain ⟨h1, h2⟩ := h r List.mem_cons_self
    obtain ⟨e1, e2, e3⟩ := py_row h1 h2
    obtain ⟨i1, i2, i3⟩ := toPys_rows fun x hx => h x (List.mem_cons_of_mem _ hx)
    refine ⟨?_, ?_, ?_⟩
    · simp [toPys, e1, i1]
    · simp [PyData.canLayAll0, e2, i2]
    · simp only [List.map_cons, PyData.depthAll, e3]
      omega
/-- rows == [] -/
theorem jt_eqNilR {rows : List Rw} {kk : Pos} (hu : X.A.units + 64 < cLine) (ha : JD X g ρ a (.lst (rows.map prD))) (h : ∀ r ∈ rows, SOk r.1 ∧ SOk r.2) : JTD X g ρ (.Compare a [.Eq] [.List [] kk] pos) rows.isEmpty := by
  obtain ⟨i1, i2, i3⟩ := toPys_rows h
  have key := jt_eqD (p1 := .list (rows.map pyR)) (p2 := .list []) (pos := pos) hu ha (jd_lst (pos := kk) jan) (by simp [toPy, i1]) rfl (by
    show (PyData.canLayAll0 (rows.map pyR) && decide (PyData.depthAll (rows.map pyR) + 1 ≤ 64)) = true
    rw [i2, decide_eq_true (by omega)]
    rfl) rfl
  have e : PyData.eqv (.list (rows.map pyR)) (.list []) = rows.isEmpty := by cases rows <;> rfl
  rw [e] at key
  exact key
end
theorem RwOk.s {r : Rw} (h : RwOk r) : SOk r.1 ∧ SOk r.2 := ⟨h.p.sok, h.c.sok⟩
section
variable {P : Program} {w : World} {K : PySem.W.Frag} {mg : Str → Option Value} {base : Heap} (T : Mo K mg)
/-- the law's record -/
def rcD (r : Rc) : D := .tup [.str r.1, prD r.2]
def hdF (wd : Str) (ss : List Str) : Fl := ss.head?.map fun s => (wd, some s)
abbrev s_l_unborne : Stmt := top 173
theorem sc_l_unborne : FnScope ["_law_records_here", "_law_order_here", "_law_bad", "_law_one"] ["_law_records_here", "_law_order_here"] (defScope s_l_unborne) := ⟨rfl, rfl, rfl, by decide +kernel, rfl, by decide +kernel, by decide +kernel⟩
def lUnb (rs : List Rc) (o : List Str) : Fl := hdF "unborne" ((rs.filter fun r => !lbears o r.2).map Prod.fst)
/-- ('w', bad[0]) if bad != [] else None -/
theorem j_head {X : Cx} {g : Bg} {ρ : List Slot} {x : Str} {p1 p2 p3 p4 p5 p6 p7 p8 p9 : Pos} {k1 k2 k3 k4 k5} {ss : List Str} {wd : Str} (i : Nat) (hu : X.A.units + 64 < cLine) (hs : SOk ss) (h : ρ[i]? = some (.ro (sL ss))) (hN : X.N[i]? = some x := by rfl) (hv : Vis X.env.scope x := by first | exact Or.inl rfl | exact Or.inr (Or.inl rfl)) (hd : (x == ("__debug__" : Str)) = false := by decide)
    (hcd : (x == ("__classdict__" : Str)) = false := by decide) (hs1 : starEach [.Constant (.str wd) k1 p3, .Subscript (.Name x p4) (.Constant (.int 0) k2 p5) p6] X.env = (false, eval (.Constant (.str wd) k1 p3) X.env) :: starEach [.Subscript (.Name x p4) (.Constant (.int 0) k2 p5) p6] X.env := by rfl) (hs2 : starEach [.Subscript (.Name x p4) (.Constant (.int 0) k2 p5) p6] X.env = (false, eval (.Subscript (.Name x p4) (.Constant (.int 0) k2 p5) p6) X.env) :: starEach [] X.env := by rfl) :
    JD X g ρ (.IfExp (.Compare (.Name x p1) [.NotEq] [.List [] p2] p7) (.Tuple [.Constant (.str wd) k1 p3, .Subscript (.Name x p4) (.Constant (.int 0) k2 p5) p6] k3 p8) (.Constant .none k4 k5) p9) (flD (hdF wd ss)) := by
  refine j_if (jt_neSL (zs := []) hu (jv i h hN hv hd hcd) (jd_lst jan) hs fun _ h => nomatch h) (fun e => ?_) fun e => ?_
  · cases ss with
    | nil => cases e
    | cons s t => exact j_eq (jd_tup (jac j_str (jac (jd_ix (ds := (s :: t).map D.str) (jv i h hN hv hd hcd) j_int at0 (.inl rfl)) jan hs2) hs1)) rfl
  · cases ss with
    | nil => exact j_eq j_non rfl
    | cons s t => simp at e
abbrev P_l_unborne : Sp := Pro (ι := {p : List Rc × List Str // Nms (p.1.map Prod.fst) ∧ p.1.length ≤ 40 ∧ p.2.length ≤ 1000}) (fun i => [.lst (i.1.1.map rcD), sT i.1.2]) fun i d => d = flD (lUnb i.1.1 i.1.2)
theorem F_l_unborne (dn : Dn K mg "_law_unborne" s_l_unborne) (F1 : Fd P w K mg base "_law_bears" 1 P_l_bears) : Fd P w K mg base "_law_unborne" 2 P_l_unborne := by
  refine dn.fd (fun f fd G => fn_pro (k := 1) G sc_l_unborne (fun i => rfl) ?_) fun f fd G => G.binds fun _ _ _ _ _ _ us hl => match us, hl with | [_, _], _ => rfl
  rintro ⟨⟨rs, o⟩, hm, hz, ho⟩ f cdv A outer s H E hr
  replace hm : Nms (rs.map Prod.fst) := hm
  replace hz : rs.length ≤ 40 := hz
  have nd := sc_l_unborne.nd
  let bad := (rs.filter fun r => !lbears o r.2).map Prod.fst
  refine ss_setLc 2 (own := [("_law_one", 3)]) (Pi := fun z => z = rs.map rcD) rfl nd (blkOk_by (by kernel_rfl)) (ji (ds := rs.map rcD) (jv 0) (by rw [List.length_map]; omega)) (fun its i acc => acc = ((rs.take i).filter fun r => !lbears o r.2).map fun r => D.str r.1) (fun _ _ => rfl) ?_ ?_
  · rintro _ i d acc rfl hd rfl _
    obtain ⟨x, hx, rfl⟩ := map_get hd
    refine ⟨_, fun z => z = !lbears o x.2, fun z => z = .str x.1, fun _ _ _ _ _ => jg_name (i := 3) nd rfl (by first | exact Or.inl rfl | exact Or.inr rfl) (by decide), fun _ _ _ _ _ => jf_one (jt_not (jt_val (jd_f F1 ⟨(o, true, x.2), ho⟩ hr (jac (jv 1) (jac (jd_ix (d1 := rcD x) (jv 3) j_int at1 (.inr rfl)) jan))))), fun e => ⟨fun _ _ _ _ _ => jd_ix (d1 := rcD x) (jv 3) j_int at0 (.inr rfl), ?_⟩, fun e => ?_⟩
    · rintro _ rfl
      rw [filter_take rs _ _ i x hx, if_pos e.symm]
    · rw [filter_take rs _ _ i x hx, if_neg (by rw [← e]; decide), List.append_nil]
  rintro _ acc rfl rfl _
  rw [List.length_map, List.take_length]
  refine ss_frz 2 rfl ?_
  have e : (rs.filter fun r => !lbears o r.2).map (fun r => D.str r.1) = bad.map D.str := by rw [List.map_map]; rfl
  rw [e]
  exact ss_retD (j_head 2 hr.units (fun s hs => by
    obtain ⟨x, hx, rfl⟩ := List.mem_map.mp hs
    exact hm.sok _ (List.mem_map_of_mem (List.mem_filter.mp hx).1)) rfl) rfl

abbrev s_l_first_idle : Stmt := top 161
theorem sc_l_first_idle : FnScope ["_law_pairs_here", "_law_bad", "_law_one"] ["_law_pairs_here"] (defScope s_l_first_idle) := ⟨rfl, rfl, rfl, by decide +kernel, rfl, by decide +kernel, by decide +kernel⟩
def lIdle (ls : List Rc) : Fl := hdF "idle" ((ls.filter fun r => idle r.2).map Prod.fst)
/-- part of the law's records -/
structure LsOk (ls : List Rc) : Prop where
  sb : SbOk ls
  m : Nms (ls.map Prod.fst)
abbrev P_l_first_idle : Sp := Pro (ι := {ls : List Rc // LsOk ls}) (fun i => [.lst (i.1.map rcD)]) fun i d => d = flD (lIdle i.1)
theorem F_l_first_idle (dn : Dn K mg "_law_first_idle" s_l_first_idle) : Fd P w K mg base "_law_first_idle" 1 P_l_first_idle := by
  refine dn.fd (fun f fd G => fn_pro (k := 0) G sc_l_first_idle (fun i => rfl) ?_) fun f fd G => G.binds fun _ _ _ _ _ _ us hl => match us, hl with | [_], _ => rfl
  rintro ⟨ls, hb⟩ f cdv A outer s H E hr
  have nd := sc_l_first_idle.nd
  have r40 := hb.sb.r40
  let bad := (ls.filter fun r => idle r.2).map Prod.fst
  refine ss_setLc 1 (own := [("_law_one", 2)]) (Pi := fun z => z = ls.map rcD) rfl nd (blkOk_by (by kernel_rfl)) (ji (ds := ls.map rcD) (jv 0) (by rw [List.length_map]; omega)) (fun its i acc => acc = ((ls.take i).filter fun r => idle r.2).map fun r => D.str r.1) (fun _ _ => rfl) ?_ ?_
  · rintro _ i d acc rfl hd rfl _
    obtain ⟨x, hx, rfl⟩ := map_get hd
    have hx2 := (hb.sb.rw x (List.mem_of_getElem? hx)).s
    refine ⟨_, fun z => z = idle x.2, fun z => z = .str x.1, fun _ _ _ _ _ => jg_name (i := 2) nd rfl (by first | exact Or.inl rfl | exact Or.inr rfl) (by decide), fun _ _ _ _ _ => jf_one (jt_eqRw (r := x.2) (r' := ([], [])) hr.units (jd_ix (d1 := rcD x) (jv 2) j_int at1 (.inr rfl)) (jd_tup (jac (jd_tup jan) (jac (jd_tup jan) jan))) hx2.1 hx2.2 (fun _ h => nomatch h) (fun _ h => nomatch h)), fun e => ⟨fun _ _ _ _ _ => jd_ix (d1 := rcD x) (jv 2) j_int at0 (.inr rfl), ?_⟩, fun e => ?_⟩
    · rintro _ rfl
      rw [filter_take ls _ _ i x hx, if_pos e.symm]
    · rw [filter_take ls _ _ i x hx, if_neg (by rw [← e]; decide), List.append_nil]
  rintro _ acc rfl rfl _
  rw [List.length_map, List.take_length]
  refine ss_frz 1 rfl ?_
  have e : (ls.filter fun r => idle r.2).map (fun r => D.str r.1) = bad.map D.str := by rw [List.map_map]; rfl
  rw [e]
  exact ss_retD (j_head 1 hr.units (fun s hs => by
    obtain ⟨x, hx, rfl⟩ := List.mem_map.mp hs
    exact hb.m.sok _ (List.mem_map_of_mem (List.mem_filter.mp hx).1)) rfl) rfl
abbrev s_l_signs : Stmt := top 162
theorem sc_l_signs : FnScope ["_law_rows_here", "_law_k", "_law_found", "_law_row_here"] ["_law_rows_here", "_law_k"] (defScope s_l_signs) := ⟨rfl, rfl, rfl, by decide +kernel, rfl, by decide +kernel, by decide +kernel⟩
def side (k : Bool) (r : Rw) : List Str := if k = true then r.2 else r.1
def signs (rows : List Rw) (k : Bool) : List Str := srt (dd (rows.flatMap (side k)))
abbrev P_l_signs : Sp := Pro (ι := {p : List Rw × Bool // p.1.length ≤ 40 ∧ (p.1.flatMap (side p.2)).length < 64}) (fun i => [.lst (i.1.1.map prD), .int (if i.1.2 = true then 1 else 0)]) fun i d => d = sL (signs i.1.1 i.1.2)
theorem side_ix (k : Bool) (r : Rw) : atI [sT r.1, sT r.2] (if k = true then 1 else 0) = some (sT (side k r)) := by
  cases k
  · exact at0
  · exact at1
include T in
theorem F_l_signs (dn : Dn K mg "_law_signs" s_l_signs) : Fd P w K mg base "_law_signs" 1 P_l_signs := by
  refine dn.fd (fun f fd G => fn_pro (k := 0) G sc_l_signs (fun i => rfl) ?_) fun f fd G => G.binds fun _ _ _ _ _ _ us hl => match us, hl with | [_, _], _ => rfl
  rintro ⟨⟨rows, k⟩, h1, h2⟩ f cdv A outer s H E hr
  replace h1 : rows.length ≤ 40 := h1
  replace h2 : (rows.flatMap (side k)).length < 64 := h2
  have nd := sc_l_signs.nd
  refine ss_own0 2 nd ?_
  refine ss_for [3] rfl PassesOwn.never (ji (ds := rows.map prD) (jv 0) (by rw [List.length_map]; omega)) (fun its i ρ1 => ∃ a, ρ1 = [.ro (.lst (rows.map prD)), .ro (.int (if k = true then 1 else 0)), .own (((rows.take i).flatMap (side k)).map D.str), a]) (fun its e => ⟨.any, rfl⟩) ?_ ?_
  · rintro _ i d ρ1 rfl hd ⟨a, rfl⟩
    obtain ⟨r, hrs, rfl⟩ := map_get hd
    refine ⟨_, jg_name (i := 3) nd rfl (Or.inl rfl) (by decide), ?_⟩
    have hl : i < rows.length := by
      rcases Nat.lt_or_ge i rows.length with h1 | h1
      · exact h1
      · rw [List.getElem?_eq_none h1] at hrs; cases hrs
    have e : (rows.take (i + 1)).flatMap (side k) = (rows.take i).flatMap (side k) ++ side k r := by
      rw [List.getElem?_eq_getElem hl] at hrs
      cases hrs
      rw [List.take_succ_eq_append_getElem hl, List.flatMap_append, List.flatMap_cons, List.flatMap_nil, List.append_nil]
    have hlen : ((rows.take (i + 1)).flatMap (side k)).length < 64 := Nat.lt_of_le_of_lt (flatMap_len_le _ (List.take_sublist _ _)) h2
    rw [e, List.length_append] at hlen
    refine ss_extend 2 (jd_list T (d := sT (side k r)) (jd_ix (d1 := prD r) (jv 3) (jv 1) (side_ix k r) (.inr rfl)) (.inr rfl)) rfl ?_ (by rw [List.length_map, sizeLine_eq]; omega)
    rintro _ rfl
    refine ⟨_, rfl, by rw [List.length_map, List.length_map, sizeLine_eq]; omega, ss_nil ⟨.ro (prD r), ?_⟩⟩
    rw [e, List.map_append]
    rfl
  · rintro _ ρ1 rfl ⟨a, rfl⟩
    rw [List.length_map, List.take_length]
    refine ss_frz 2 rfl ?_
    exact ss_retD (jd_sortset T (ss := rows.flatMap (side k)) rfl (jv 2) h2 (.inl rfl)) rfl
end
end FD
end
section
set_option maxHeartbeats 2000000
/-! the law's own defs: what is due, on -/
namespace FD
open PySem PySem.Spec PyProof.Rows L2
theorem hdF_none {wd : Str} {ss : List Str} : (hdF wd ss).isNone = ss.isEmpty := by cases ss <;> rfl
def rws (ls : List Rc) : List Rw := ls.map Prod.snd
theorem rws_flat (ls : List Rc) (k : Bool) : (rws ls).flatMap (side k) = ls.flatMap fun r => side k r.2 := by unfold rws; rw [List.flatMap_map]
theorem LsOk.few {ls : List Rc} (h : LsOk ls) (k : Bool) : ((rws ls).flatMap (side k)).length < 64 := by
  rw [rws_flat]
  cases k
  · exact h.sb.fw
  · exact h.sb.fw2
theorem LsOk.ln {ls : List Rc} (h : LsOk ls) : (rws ls).length ≤ 40 := by unfold rws; rw [List.length_map]; exact h.sb.r40
theorem LsOk.rok {ls : List Rc} (h : LsOk ls) : ∀ r ∈ rws ls, RwOk r := fun r hr => by
  obtain ⟨x, hx, rfl⟩ := List.mem_map.mp hr
  exact h.sb.rw x hx
theorem signs_ok {rows : List Rw} (h : ∀ r ∈ rows, RwOk r) (k : Bool) : SOk (signs rows k) := fun s hs => by
  unfold signs at hs
  rw [srt_mem, dd_mem] at hs
  obtain ⟨r, hr, hm⟩ := List.mem_flatMap.mp hs
  cases k
  · exact (h r hr).s.1 s hm
  · exact (h r hr).s.2 s hm
theorem signs_len {rows : List Rw} {k : Bool} (h : (rows.flatMap (side k)).length < 64) : (signs rows k).length < 64 := by
  unfold signs
  rw [srt_len]
  exact Nat.lt_of_le_of_lt (dd_len_le _) h
def lStuck (ls : List Rc) : Fl := if (rws ls).isEmpty = true then some ("empty", none) else if !(lIdle ls).isNone || ((signs (rws ls) false).filter fun x => !decide (x ∈ signs (rws ls) true)).isEmpty then lIdle ls else hdF "for" ((signs (rws ls) false).filter fun x => !decide (x ∈ signs (rws ls) true))
section
variable {P : Program} {w : World} {K : PySem.W.Frag} {mg : Str → Option Value} {base : Heap} (T : Mo K mg)
abbrev s_l_stuck_flaw : Stmt := top 163
theorem sc_l_stuck_flaw : FnScope ["_law_pairs_here", "_law_more", "_law_rows_here", "_law_bad", "_law_x", "_law_one"] ["_law_pairs_here", "_law_more"] (defScope s_l_stuck_flaw) := ⟨rfl, rfl, rfl, by decide +kernel, rfl, by decide +kernel, by decide +kernel⟩
abbrev P_l_stuck : Sp := Pro (ι := {ls : List Rc // LsOk ls}) (fun i => [.lst (i.1.map rcD), .lst []]) fun i d => d = flD (lStuck i.1)
theorem F_l_stuck (dn : Dn K mg "_law_stuck_flaw" s_l_stuck_flaw) (F1 : Fd P w K mg base "_law_signs" 1 P_l_signs) (F2 : Fd P w K mg base "_law_first_idle" 1 P_l_first_idle) : Fd P w K mg base "_law_stuck_flaw" 2 P_l_stuck := by
  refine dn.fd (fun f fd G => fn_pro (k := 1) G sc_l_stuck_flaw (fun i => rfl) ?_) fun f fd G => G.binds fun _ _ _ _ _ _ us hl => match us, hl with | [_, _], _ => rfl
  rintro ⟨ls, hb⟩ f cdv A outer s H E hr
  have nd := sc_l_stuck_flaw.nd
  have r40 := hb.sb.r40
  have done : ∀ d, d = flD (lStuck ls) → (poOf fun d => d = flD (lStuck ls)).R d := fun d h => h
  refine ss_setD (d := .lst ((rws ls).map prD)) 2 nd (j_eq (jd_catL (jd_lcm (own := [("_law_one", 5)]) ls rcD (fun r => prD r.2) rfl nd (blkOk_by (by kernel_rfl)) (ji (ds := ls.map rcD) (jv 0) (by rw [List.length_map]; omega)) fun r hm => ⟨_, fun _ _ _ _ _ => jg_name (i := 5) nd rfl (by first | exact Or.inl rfl | exact Or.inr rfl) (by decide), fun _ _ _ _ _ => jd_ix (d1 := rcD r) (jv 5) j_int at1 (.inr rfl)⟩) (jv 1) (by rw [List.length_map, sizeLine_eq]; simp; omega)) (by rw [List.append_nil]; unfold rws; rw [List.map_map]; rfl)) ?_
  refine ss_ifD0 (jt_eqNilR (rows := rws ls) hr.units (jv 2) fun r h => (hb.rok r h).s) (fun h => ss_retD (jd_tup (jac j_str (jac j_non jan))) (done _ ?_)) fun h => ?_
  · unfold lStuck
    rw [if_pos h]
    rfl
  let bad := (signs (rws ls) false).filter fun x => !decide (x ∈ signs (rws ls) true)
  refine ss_setLc 3 (own := [("_law_x", 4)]) (Pi := fun z => z = (signs (rws ls) false).map D.str) rfl nd (blkOk_by (by kernel_rfl)) (ji (ds := (signs (rws ls) false).map D.str) (jd_f F1 ⟨(rws ls, false), hb.ln, hb.few false⟩ hr (jac (jv 2) (jac j_int jan))) (by rw [List.length_map]; have := signs_len (hb.few false); omega) (.inl rfl)) (fun its i acc => acc = (((signs (rws ls) false).take i).filter fun x => !decide (x ∈ signs (rws ls) true)).map D.str) (fun _ _ => rfl) ?_ ?_
  · rintro _ i d acc rfl hd rfl _
    obtain ⟨x, hx, rfl⟩ := map_get hd
    refine ⟨_, fun z => z = !decide (x ∈ signs (rws ls) true), fun z => z = .str x, fun _ _ _ _ _ => jg_name (i := 4) nd rfl (by first | exact Or.inl rfl | exact Or.inr rfl) (by decide), fun _ _ _ _ _ => jf_one (jt_ninS (ss := signs (rws ls) true) (jv 4) (jd_f F1 ⟨(rws ls, true), hb.ln, hb.few true⟩ hr (jac (jv 2) (jac j_int jan))) (.inl rfl)), fun e => ⟨fun _ _ _ _ _ => jv 4, ?_⟩, fun e => ?_⟩
    · rintro _ rfl
      rw [filter_take (signs (rws ls) false) _ _ i x hx, if_pos e.symm]
    · rw [filter_take (signs (rws ls) false) _ _ i x hx, if_neg (by rw [← e]; decide), List.append_nil]
  rintro _ acc rfl rfl _
  rw [List.length_map, List.take_length]
  refine ss_frz 3 rfl ?_
  have hbs : SOk bad := fun s hs => signs_ok hb.rok false s (List.mem_filter.mp hs).1
  refine ss_ifD0 (u := !(lIdle ls).isNone || bad.isEmpty) (JW.t (jw_or (jt_eq (jt_notN (d := flD (lIdle ls)) (jd_f (ι := {ls : List Rc // LsOk ls}) F2 ⟨ls, hb⟩ hr (jac (jv 0) jan))) (by rw [flD_isN])) fun _ => jw_or1 (jt_eq (jt_eqSL (ss := bad) (zs := []) hr.units (jv 3) (jd_lst jan) hbs fun _ h => nomatch h) (by cases bad <;> rfl)))) (fun h2 => ?_) fun h2 => ?_
  · refine ss_retD (d := flD (lIdle ls)) (jd_f F2 ⟨ls, hb⟩ hr (jac (jv 0) jan)) (done _ ?_)
    unfold lStuck
    rw [if_neg (by rw [h]; decide), if_pos h2]
  · cases hbad : bad with
    | nil =>
      rw [hbad, Bool.or_eq_false_iff] at h2
      cases h2.2
    | cons s t =>
      refine ss_retD (d := .tup [.str "for", .str s]) (jd_tup (jac j_str (jac (jd_ix (d1 := sL bad) (jv 3) j_int (ds := (s :: t).map D.str) at0 (by rw [hbad]; exact .inl rfl)) jan))) (done _ ?_)
      unfold lStuck
      rw [if_neg (by rw [h]; decide), if_neg (by rw [show ((signs (rws ls) false).filter fun x => !decide (x ∈ signs (rws ls) true)) = bad from rfl, h2]; decide)]
      rw [show ((signs (rws ls) false).filter fun x => !decide (x ∈ signs (rws ls) true)) = bad from rfl, hbad]
      rfl
abbrev s_l_pairs : Stmt := top 165
theorem sc_l_pairs : FnScope ["_law_records_here", "_law_lot", "_law_one"] ["_law_records_here", "_law_lot"] (defScope s_l_pairs) := ⟨rfl, rfl, rfl, by decide +kernel, rfl, by decide +kernel, by decide +kernel⟩
abbrev P_l_pairs : Sp := Pro (ι := {p : List Rc × List Str // p.1.length ≤ 40}) (fun i => [.lst (i.1.1.map rcD), sT i.1.2]) fun i d => d = .lst ((lotOf i.1.1 i.1.2).map rcD)
theorem F_l_pairs (dn : Dn K mg "_law_pairs" s_l_pairs) : Fd P w K mg base "_law_pairs" 1 P_l_pairs := by
  refine dn.fd (fun f fd G => fn_pro (k := 0) G sc_l_pairs (fun i => rfl) ?_) fun f fd G => G.binds fun _ _ _ _ _ _ us hl => match us, hl with | [_, _], _ => rfl
  rintro ⟨⟨rs, ss⟩, hz⟩ f cdv A outer s H E hr
  replace hz : rs.length ≤ 40 := hz
  have nd := sc_l_pairs.nd
  exact ss_retD (jd_lc (own := [("_law_one", 2)]) rs rcD (fun r => decide (r.1 ∈ ss)) rcD rfl nd (blkOk_by (by kernel_rfl)) (ji (ds := rs.map rcD) (jv 0) (by rw [List.length_map]; omega)) fun r _ => ⟨_, fun _ _ _ _ _ => jg_name (i := 2) nd rfl (by first | exact Or.inl rfl | exact Or.inr rfl) (by decide), fun _ _ _ _ _ => jf_one (jt_inS (ss := ss) (jd_ix (d1 := rcD r) (jv 2) j_int at0 (.inr rfl)) (jv 1) (.inr rfl)), fun _ _ _ _ _ _ => jv 2⟩) rfl
abbrev s_l_joined : Stmt := top 177
theorem sc_l_joined : FnScope ["_law_pairs_here", "_law_rows_here", "_law_con", "_law_one", "_law_x"] ["_law_pairs_here"] (defScope s_l_joined) := ⟨rfl, rfl, rfl, by decide +kernel, rfl, by decide +kernel, by decide +kernel⟩
def joined (ls : List Rc) : Rw := ((signs (rws ls) false).filter (fun x => !decide (x ∈ signs (rws ls) true)), signs (rws ls) true)
abbrev P_l_joined : Sp := Pro (ι := {ls : List Rc // LsOk ls}) (fun i => [.lst (i.1.map rcD)]) fun i d => d = prD (joined i.1)

include T in
theorem F_l_joined (dn : Dn K mg "_law_joined" s_l_joined) (F1 : Fd P w K mg base "_law_signs" 1 P_l_signs) : Fd P w K mg base "_law_joined" 2 P_l_joined := by
  refine dn.fd (fun f fd G => fn_pro (k := 1) G sc_l_joined (fun i => rfl) ?_) fun f fd G => G.binds fun _ _ _ _ _ _ us hl => match us, hl with | [_], _ => rfl
  rintro ⟨ls, hb⟩ f cdv A outer s H E hr
  have nd := sc_l_joined.nd
  have r40 := hb.sb.r40
  refine ss_setLc 1 (own := [("_law_one", 3)]) (Pi := fun z => z = ls.map rcD) rfl nd (blkOk_by (by kernel_rfl)) (ji (ds := ls.map rcD) (jv 0) (by rw [List.length_map]; omega)) (fun its i acc => acc = (ls.take i).map fun r => prD r.2) (fun _ _ => rfl) ?_ ?_
  · rintro _ i d acc rfl hd rfl _
    obtain ⟨x, hx, rfl⟩ := map_get hd
    refine ⟨_, fun z => z = true, fun z => z = prD x.2, fun _ _ _ _ _ => jg_name (i := 3) nd rfl (by first | exact Or.inl rfl | exact Or.inr rfl) (by decide), fun _ _ _ _ _ => jf_nil, fun e => ⟨fun _ _ _ _ _ => jd_ix (d1 := rcD x) (jv 3) j_int at1 (.inr rfl), ?_⟩, fun e => nomatch e⟩
    rintro _ rfl
    have hl : i < ls.length := by
      rcases Nat.lt_or_ge i ls.length with h1 | h1
      · exact h1
      · rw [List.getElem?_eq_none h1] at hx; cases hx
    rw [List.getElem?_eq_getElem hl] at hx
    cases hx
    rw [List.take_succ_eq_append_getElem hl, List.map_append]
    rfl
  rintro _ acc rfl rfl _
  rw [List.length_map, List.take_length]
  have e1 : (ls.map fun r => prD r.2) = (rws ls).map prD := by unfold rws; rw [List.map_map]; rfl
  rw [e1]
  refine ss_frz 1 rfl ?_
  refine ss_setD (d := sL (signs (rws ls) true)) 2 nd (jd_f F1 ⟨(rws ls, true), hb.ln, hb.few true⟩ hr (jac (jv 1) (jac j_int jan))) ?_
  exact ss_retD (jd_tup (jac (jd_tuple (ds := (joined ls).1.map D.str) T (jd_lc (own := [("_law_x", 4)]) (signs (rws ls) false) D.str (fun x => !decide (x ∈ signs (rws ls) true)) D.str rfl nd (blkOk_by (by kernel_rfl)) (ji (ds := (signs (rws ls) false).map D.str) (jd_f F1 ⟨(rws ls, false), hb.ln, hb.few false⟩ hr (jac (jv 1) (jac j_int jan))) (by rw [List.length_map]; have := signs_len (hb.few false); omega) (.inl rfl)) fun x _ => ⟨_, fun _ _ _ _ _ => jg_name (i := 4) nd rfl (by first | exact Or.inl rfl | exact Or.inr rfl) (by decide), fun _ _ _ _ _ => jf_one (jt_ninS (ss := signs (rws ls) true) (jv 4) (jv 2) (.inl rfl)), fun _ _ _ _ _ _ => jv 4⟩) (.inl rfl)) (jac (jd_tuple T (d := sL (signs (rws ls) true)) (jv 2) (.inl rfl)) jan))) rfl
end
end FD
end
section
set_option maxHeartbeats 2000000
/-! the law's own defs: follow_flaw, due -/
namespace FD
open PySem PySem.Spec PyProof.Rows L2
def lAg (r : Rw) (ls : List Rc) : List Str := r.2.filter fun x => !decide (x ∈ signs (rws ls) true)
def lFo (r : Rw) (ls : List Rc) : List Str := (signs (rws ls) false).filter fun x => !decide (x ∈ signs (rws ls) true) && !decide (x ∈ r.1)
def lFollow (r : Rw) (ls : List Rc) : Fl := if (lIdle ls).isNone = false then lIdle ls else if lAg r ls = [] then hdF "for" (lFo r ls) else hdF "against" (lAg r ls)
section
variable {P : Program} {w : World} {K : PySem.W.Frag} {mg : Str → Option Value} {base : Heap} (T : Mo K mg)
abbrev s_l_follow : Stmt := top 164
theorem sc_l_follow : FnScope ["_law_row_here", "_law_pairs_here", "_law_rows_here", "_law_con", "_law_bad", "_law_one", "_law_x"] ["_law_row_here", "_law_pairs_here"] (defScope s_l_follow) := ⟨rfl, rfl, rfl, by decide +kernel, rfl, by decide +kernel, by decide +kernel⟩
abbrev P_l_follow : Sp := Pro (ι := {p : Rw × List Rc // RwOk p.1 ∧ LsOk p.2}) (fun i => [prD i.1.1, .lst (i.1.2.map rcD)]) fun i d => d = flD (lFollow i.1.1 i.1.2)
theorem F_l_follow (dn : Dn K mg "_law_follow_flaw" s_l_follow) (F1 : Fd P w K mg base "_law_signs" 1 P_l_signs) (F2 : Fd P w K mg base "_law_first_idle" 1 P_l_first_idle) : Fd P w K mg base "_law_follow_flaw" 2 P_l_follow := by
  refine dn.fd (fun f fd G => fn_pro (k := 1) G sc_l_follow (fun i => rfl) ?_) fun f fd G => G.binds fun _ _ _ _ _ _ us hl => match us, hl with | [_, _], _ => rfl
  rintro ⟨⟨r, ls⟩, hro, hb⟩ f cdv A outer s H E hr
  replace hro : RwOk r := hro
  replace hb : LsOk ls := hb
  have nd := sc_l_follow.nd
  have r40 := hb.sb.r40
  have done : ∀ d, d = flD (lFollow r ls) → (poOf fun d => d = flD (lFollow r ls)).R d := fun d h => h
  refine ss_setLc 2 (own := [("_law_one", 5)]) (Pi := fun z => z = ls.map rcD) rfl nd (blkOk_by (by kernel_rfl)) (ji (ds := ls.map rcD) (jv 1) (by rw [List.length_map]; omega)) (fun its i acc => acc = (ls.take i).map fun r => prD r.2) (fun _ _ => rfl) ?_ ?_
  · rintro _ i d acc rfl hd rfl _
    obtain ⟨x, hx, rfl⟩ := map_get hd
    refine ⟨_, fun z => z = true, fun z => z = prD x.2, fun _ _ _ _ _ => jg_name (i := 5) nd rfl (by first | exact Or.inl rfl | exact Or.inr rfl) (by decide), fun _ _ _ _ _ => jf_nil, fun e => ⟨fun _ _ _ _ _ => jd_ix (d1 := rcD x) (jv 5) j_int at1 (.inr rfl), ?_⟩, fun e => nomatch e⟩
    rintro _ rfl
    have hl : i < ls.length := by
      rcases Nat.lt_or_ge i ls.length with h1 | h1
      · exact h1
      · rw [List.getElem?_eq_none h1] at hx; cases hx
    rw [List.getElem?_eq_getElem hl] at hx
    cases hx
    rw [List.take_succ_eq_append_getElem hl, List.map_append]
    rfl
  rintro _ acc rfl rfl _
  rw [List.length_map, List.take_length]
  have e1 : (ls.map fun r => prD r.2) = (rws ls).map prD := by unfold rws; rw [List.map_map]; rfl
  rw [e1]
  refine ss_frz 2 rfl ?_
  refine ss_ifD0 (jt_eq (jt_notN (d := flD (lIdle ls)) (jd_f (ι := {ls : List Rc // LsOk ls}) F2 ⟨ls, hb⟩ hr (jac (jv 1) jan))) (by rw [flD_isN])) (fun h => ?_) fun h => ?_
  · refine ss_retD (d := flD (lIdle ls)) (jd_f F2 ⟨ls, hb⟩ hr (jac (jv 1) jan)) (done _ ?_)
    unfold lFollow
    rw [if_pos (g4 h)]
  have hn : ¬ (lIdle ls).isNone = false := by rw [g3 h]; decide
  refine ss_setD (d := sL (signs (rws ls) true)) 3 nd (jd_f F1 ⟨(rws ls, true), hb.ln, hb.few true⟩ hr (jac (jv 2) (jac j_int jan))) ?_
  refine ss_setLc 4 (own := [("_law_x", 6)]) (Pi := fun z => z = r.2.map D.str) rfl nd (blkOk_by (by kernel_rfl)) (ji (ds := r.2.map D.str) (jd_ix (d1 := prD r) (jv 0) j_int at1 (.inr rfl)) (by rw [List.length_map]; have := hro.f2; omega) (.inr rfl)) (fun its i acc => acc = ((r.2.take i).filter fun x => !decide (x ∈ signs (rws ls) true)).map D.str) (fun _ _ => rfl) ?_ ?_
  · rintro _ i d acc rfl hd rfl _
    obtain ⟨x, hx, rfl⟩ := map_get hd
    refine ⟨_, fun z => z = !decide (x ∈ signs (rws ls) true), fun z => z = .str x, fun _ _ _ _ _ => jg_name (i := 6) nd rfl (by first | exact Or.inl rfl | exact Or.inr rfl) (by decide), fun _ _ _ _ _ => jf_one (jt_ninS (ss := signs (rws ls) true) (jv 6) (jv 3) (.inl rfl)), fun e => ⟨fun _ _ _ _ _ => jv 6, ?_⟩, fun e => ?_⟩
    · rintro _ rfl
      rw [filter_take r.2 _ _ i x hx, if_pos e.symm]
    · rw [filter_take r.2 _ _ i x hx, if_neg (by rw [← e]; decide), List.append_nil]
  rintro _ acc rfl rfl _
  rw [List.length_map, List.take_length]
  refine ss_frz 4 rfl ?_
  have hs1 : SOk (lAg r ls) := fun s hs => hro.s.2 s (List.mem_filter.mp hs).1
  refine ss_ifD0 (jt_neSL (ss := lAg r ls) (zs := []) hr.units (jv 4) (jd_lst jan) hs1 fun _ h => nomatch h) (fun h2 => ?_) fun h2 => ?_
  · have hne : ¬ lAg r ls = [] := by simpa using h2
    cases hag : lAg r ls with
    | nil => exact absurd hag hne
    | cons s t =>
      refine ss_retD (d := .tup [.str "against", .str s]) (jd_tup (jac j_str (jac (jd_ix (d1 := sL (lAg r ls)) (jv 4) j_int (ds := (s :: t).map D.str) at0 (by rw [hag]; exact .inl rfl)) jan))) (done _ ?_)
      unfold lFollow
      rw [if_neg hn, if_neg hne, hag]
      rfl
  have he : lAg r ls = [] := by simpa using h2
  refine ss_setLc 4 (own := [("_law_x", 6)]) (Pi := fun z => z = (signs (rws ls) false).map D.str) rfl nd (blkOk_by (by kernel_rfl)) (ji (ds := (signs (rws ls) false).map D.str) (jd_f F1 ⟨(rws ls, false), hb.ln, hb.few false⟩ hr (jac (jv 2) (jac j_int jan))) (by rw [List.length_map]; have := signs_len (hb.few false); omega) (.inl rfl)) (fun its i acc => acc = (((signs (rws ls) false).take i).filter fun x => !decide (x ∈ signs (rws ls) true) && !decide (x ∈ r.1)).map D.str) (fun _ _ => rfl) ?_ ?_
  · rintro _ i d acc rfl hd rfl _
    obtain ⟨x, hx, rfl⟩ := map_get hd
    refine ⟨_, fun z => z = (!decide (x ∈ signs (rws ls) true) && !decide (x ∈ r.1)), fun z => z = .str x, fun _ _ _ _ _ => jg_name (i := 6) nd rfl (by first | exact Or.inl rfl | exact Or.inr rfl) (by decide), fun _ _ _ _ _ => jf_one (JW.t (jw_and (jt_ninS (ss := signs (rws ls) true) (jv 6) (jv 3) (.inl rfl)) fun _ => jw_and1 (jt_ninS (ss := r.1) (jv 6) (jd_ix (d1 := prD r) (jv 0) j_int at0 (.inr rfl)) (.inr rfl)))), fun e => ⟨fun _ _ _ _ _ => jv 6, ?_⟩, fun e => ?_⟩
    · rintro _ rfl
      rw [filter_take (signs (rws ls) false) _ _ i x hx, if_pos e.symm]
    · rw [filter_take (signs (rws ls) false) _ _ i x hx, if_neg (by rw [← e]; decide), List.append_nil]
  rintro _ acc rfl rfl _
  rw [List.length_map, List.take_length]
  refine ss_frz 4 rfl ?_
  refine ss_retD (j_head (ss := lFo r ls) 4 hr.units (fun s hs => signs_ok hb.rok false s (List.mem_filter.mp hs).1) rfl) (done _ ?_)
  unfold lFollow
  rw [if_neg hn, if_pos he]
end
end FD
end
section
set_option maxHeartbeats 2000000
/-! the law's own defs: due -/
namespace FD
open PySem PySem.Spec PyProof.Rows L2
section
variable (ns : List Str) (rs : List Rc)
def due2 (wd : Str) (p : Pa) : Fl := if wd = "fits" ∧ ordQ ns p = true then (match p with | .ord o => lUnb rs o | _ => form0) else if wd = "stuck" ∧ lotL (rs.map Prod.fst) p = true then (match p with | .seq _ its => lStuck (lotOf rs (its.map D.txt)) | _ => form0) else form0
def due3 (wd : Str) (p q : Pa) : Fl := match p with
  | .row r => if rowL ns (.row r) = false then form0 else if wd = "follows" ∧ lotL (rs.map Prod.fst) q = true then (match q with | .seq _ its => lFollow r (lotOf rs (its.map D.txt)) | _ => form0)
    else if wd = "open" ∧ ordQ ns q = true then (match q with | .ord o => if (lUnb rs o).isNone = true ∧ lbears o r = true then some ("borne", none) else lUnb rs o | _ => form0) else form0
  | _ => form0
def dueM (t : Bool) (ps : List Pa) : Fl := if t = false then form0 else match ps with
  | [.str wd, p] => due2 ns rs wd p
  | [.str wd, p, q] => due3 ns rs wd p q
  | _ => form0
end
theorem lotL_seq {ms : List Str} {p : Pa} (h : lotL ms p = true) : ∃ its, p = .seq true its ∧ its.all D.isStr = true := by
  cases p with
  | seq t its =>
    cases t with
    | true =>
      replace h : (its.all D.isStr && _) = true := h
      rw [Bool.and_eq_true] at h
      exact ⟨its, rfl, h.1⟩
    | false => cases h
  | _ => cases h
theorem rowL_row {ns : List Str} {p : Pa} (h : rowL ns p = true) : ∃ r, p = .row r := by
  cases p with
  | row r => exact ⟨r, rfl⟩
  | _ => cases h
theorem rowL_not {ns : List Str} {rs : List Rc} {wd : Str} {p q : Pa} (h : rowL ns p = false) : due3 ns rs wd p q = form0 := by
  cases p with
  | row r => show (if rowL ns (.row r) = false then form0 else _) = _; rw [if_pos h]
  | _ => rfl
section
variable {P : Program} {w : World} {K : PySem.W.Frag} {mg : Str → Option Value} {base : Heap} (T : Mo K mg)
abbrev s_l_due : Stmt := top 179
theorem sc_l_due : FnScope ["_law_names_here", "_law_records_here", "_law_paper", "_law_row_here", "_law_fault", "_law_form", "_law_marks", "_law_one"] ["_law_names_here", "_law_records_here", "_law_paper"] (defScope s_l_due) := ⟨rfl, rfl, rfl, by decide +kernel, rfl, by decide +kernel, by decide +kernel⟩
/-- a drawn paper -/
structure PpOk (ps : List Pa) : Prop where
  ok : ∀ p ∈ ps, PaOk T p
  few : ∀ p ∈ ps, few p
  ln : ps.length ≤ 1000
theorem lsOk_of {ns : List Str} {rs : List Rc} (hb : BkOk ns rs) (ss : List Str) : LsOk (lotOf rs ss) :=
  ⟨hb.sb (lot_sub rs ss), ⟨fun s hs => hb.m.ok s ((List.Sublist.map Prod.fst (lot_sub rs ss)).subset hs), hb.m.nd.sublist (List.Sublist.map Prod.fst (lot_sub rs ss))⟩⟩
abbrev P_l_due : Sp := Pro (ι := {p : Bq × Bool × List Pa // PpOk T p.2.2}) (fun i => [sL i.1.1.1.1, .lst (i.1.1.1.2.map rcD), sqD i.1.2.1 (i.1.2.2.map pD)]) fun i d => d = flD (dueM i.1.1.1.1 i.1.1.1.2 i.1.2.1 i.1.2.2)
theorem F_l_due (dn : Dn K mg "_law_due" s_l_due) (F1 : Fd P w K mg base "_law_is_order_part" 1 (P_l_iop T)) (F2 : Fd P w K mg base "_law_is_row_part" 1 (P_l_irp T)) (F3 : Fd P w K mg base "_law_is_lot" 2 (P_l_is_lot T)) (F4 : Fd P w K mg base "_law_unborne" 2 P_l_unborne) (F5 : Fd P w K mg base "_law_stuck_flaw" 2 P_l_stuck) (F6 : Fd P w K mg base "_law_pairs" 1 P_l_pairs) (F7 : Fd P w K mg base "_law_follow_flaw" 2 P_l_follow) (F8 : Fd P w K mg base "_law_bears" 1 P_l_bears) :
    Fd P w K mg base "_law_due" 3 (P_l_due T) := by
  refine dn.fd (fun f fd G => fn_pro (k := 2) G sc_l_due (fun i => rfl) ?_) fun f fd G => G.binds fun _ _ _ _ _ _ us hl => match us, hl with | [_, _, _], _ => rfl
  rintro ⟨⟨⟨⟨ns, rs⟩, hb⟩, t, ps⟩, hp⟩ f cdv A outer s H E hr
  replace hb : BkOk ns rs := hb
  replace hp : PpOk T ps := hp
  have nd := sc_l_due.nd
  have hu := hu_of hr
  have r40 := hb.r40
  have n7 := hb.n7
  have done : ∀ fl : Fl, dueM ns rs t ps = fl → (poOf fun d => d = flD (dueM ns rs t ps)).R (flD fl) := fun fl e => congrArg flD e.symm
  refine ss_par (P1 := fun z => z = flD form0) (P2 := fun z => z = sL (rs.map Prod.fst)) 5 6 rfl nd (jd_tup (jac j_str (jac j_non jan))) (j_eq (jd_lcm (own := [("_law_one", 7)]) rs rcD (fun r => D.str r.1) rfl nd (blkOk_by (by kernel_rfl)) (ji (ds := rs.map rcD) (jv 1) (by rw [List.length_map]; omega)) fun r _ => ⟨_, fun _ _ _ _ _ => jg_name (i := 7) nd rfl (by first | exact Or.inl rfl | exact Or.inr rfl) (by decide), fun _ _ _ _ _ => jd_ix (d1 := rcD r) (jv 7) j_int at0 (.inr rfl)⟩) (by show D.lst _ = D.lst ((rs.map Prod.fst).map D.str); rw [List.map_map]; rfl)) ?_
  rintro _ _ rfl rfl
  have htp : Tp T (sqD t (ps.map pD)) := by cases t <;> exact ⟨_, rfl⟩
  have hsq : Sq (sqD t (ps.map pD)) (ps.map pD) := by cases t <;> first | exact .inl rfl | exact .inr rfl
  -- shapes that are no papers
  by_cases hg : ∃ wd p qs, t = true ∧ ps = .str wd :: p :: qs
  · obtain ⟨wd, p, qs, rfl, rfl⟩ := hg
    have hpok := hp.ok p (by simp)
    have hpf := hp.few p (by simp)
    refine ss_ifNo (JW.t (jw_or (jt_not (jt_val (i_tuple T (d := .tup ((Pa.str wd :: p :: qs).map pD)) (jv 2) ⟨_, rfl⟩))) fun _ => jw_or (jt_lt (jd_len T (ds := (Pa.str wd :: p :: qs).map pD) (jv 2) (.inr rfl)) j_int) fun _ => jw_or1 (jt_not (jt_val (i_str T (d := .str wd) (jd_ix (ds := (Pa.str wd :: p :: qs).map pD) (jv 2) j_int at0 (.inr rfl)) ⟨_, rfl⟩))))) ?_ ?_
    · show (false || (decide _ || false)) = false
      rw [Bool.false_or, Bool.or_false, decide_eq_false]
      rw [List.length_map, List.length_cons, List.length_cons]
      omega
    have hls : ((Pa.str wd :: p :: qs).map pD).length = qs.length + 2 := by rw [List.length_map]; rfl
    have d2 : qs = [] → dueM ns rs true (.str wd :: p :: qs) = due2 ns rs wd p := fun e => by subst e; rfl
    -- fits
    refine ss_ifD0 (u := decide (wd = "fits") && (decide (((qs.length + 2 : Nat) : Int) = 2) && ordQ ns p)) (JW.t (jw_and (jt_eqS (jd_ix (ds := (Pa.str wd :: p :: qs).map pD) (jv 2) j_int at0 (.inr rfl)) j_str) fun _ => jw_and (jt_eq (jt_eqI (jd_len T (ds := (Pa.str wd :: p :: qs).map pD) (jv 2) (.inr rfl)) j_int) (by rw [hls])) fun _ => jw_and1 (jt_val (jd_f F1 ⟨(p, ns), hpok, hb.n, n7⟩ (hr.mono (by decide)) (jac (jd_ix (ds := (Pa.str wd :: p :: qs).map pD) (jv 2) j_int at1 (.inr rfl)) (jac (jv 0) jan)))))) (fun h => ?_) fun h1 => ?_
    · rw [Bool.and_eq_true, Bool.and_eq_true, decide_eq_true_eq, decide_eq_true_eq] at h
      obtain ⟨rfl, hl, ho⟩ := h
      have hq0 : qs = [] := List.length_eq_zero_iff.mp (by omega)
      obtain ⟨o, rfl, e⟩ := ordQ_ord ho
      have hoo : OrOk o := hpok
      refine ss_retD (d := flD (lUnb rs o)) (jd_f F4 ⟨(rs, o), hb.m, r40, by have := hoo.f7; show o.length ≤ 1000; omega⟩ hr (jac (jv 1) (jac (jd_dget hu (d := sT o) (jd_ix (ds := (Pa.str "fits" :: .ord o :: qs).map pD) (jv 2) j_int at1 (.inr rfl)) j_str rfl) jan))) (done _ ?_)
      rw [d2 hq0]
      unfold due2
      rw [if_pos ⟨rfl, ho⟩]
    -- stuck
    refine ss_ifD0 (u := decide (wd = "stuck") && (decide (((qs.length + 2 : Nat) : Int) = 2) && lotL (rs.map Prod.fst) p)) (JW.t (jw_and (jt_eqS (jd_ix (ds := (Pa.str wd :: p :: qs).map pD) (jv 2) j_int at0 (.inr rfl)) j_str) fun _ => jw_and (jt_eq (jt_eqI (jd_len T (ds := (Pa.str wd :: p :: qs).map pD) (jv 2) (.inr rfl)) j_int) (by rw [hls])) fun _ => jw_and1 (jt_val (jd_f F3 ⟨(p, rs.map Prod.fst), hpok, hpf⟩ hr (jac (jd_ix (ds := (Pa.str wd :: p :: qs).map pD) (jv 2) j_int at1 (.inr rfl)) (jac (jv 6) jan)))))) (fun h => ?_) fun h2 => ?_
    · rw [Bool.and_eq_true, Bool.and_eq_true, decide_eq_true_eq, decide_eq_true_eq] at h
      obtain ⟨rfl, hl, ho⟩ := h
      have hq0 : qs = [] := List.length_eq_zero_iff.mp (by omega)
      obtain ⟨its, rfl, hst⟩ := lotL_seq ho
      have e := all_strs hst
      refine ss_retD (d := flD (lStuck (lotOf rs (its.map D.txt)))) (jd_f F5 ⟨lotOf rs (its.map D.txt), lsOk_of hb _⟩ hr (jac (jd_f F6 ⟨(rs, its.map D.txt), r40⟩ (hr.mono (by decide)) (jac (jv 1) (jac (j_eq (d2 := sT (its.map D.txt)) (jd_ix (ds := (Pa.str "stuck" :: .seq true its :: qs).map pD) (jv 2) j_int at1 (.inr rfl)) (by show D.tup its = D.tup _; rw [← e])) jan))) (jac (jd_lst jan) jan))) (done _ ?_)
      rw [d2 hq0]
      unfold due2
      rw [if_neg (fun h => absurd h.1 (by decide)), if_pos ⟨rfl, ho⟩]
    -- not three, no row
    refine ss_ifD0 (u := !decide (((qs.length + 2 : Nat) : Int) = 3) || !rowL ns p) (JW.t (jw_or (jt_eq (jt_neI (jd_len T (ds := (Pa.str wd :: p :: qs).map pD) (jv 2) (.inr rfl)) j_int) (by rw [hls])) fun _ => jw_or1 (jt_not (jt_val (jd_f F2 ⟨(p, ns), hpok⟩ (hr.mono (by decide)) (jac (jd_ix (ds := (Pa.str wd :: p :: qs).map pD) (jv 2) j_int at1 (.inr rfl)) (jac (jv 0) jan))))))) (fun h => ss_retD (jv 5) (done form0 ?_)) fun h => ?_
    · match qs, h, h1, h2 with
      | [], h, h1, h2 =>
        show due2 ns rs wd p = form0
        unfold due2
        rw [if_neg (fun h => by simp [h.1, h.2] at h1), if_neg (fun h => by simp [h.1, h.2] at h2)]
      | [q], h, _, _ =>
        refine rowL_not ?_
        simpa using h
      | _ :: _ :: _, _, _, _ => rfl
    have h3 := g2 h
    have hl3 : qs.length = 1 := by have := of_decide_eq_true h3.1; omega
    obtain ⟨q, rfl⟩ := List.length_eq_one_iff.mp hl3
    obtain ⟨r, rfl⟩ := rowL_row h3.2
    have hro : RwOk r := (show RwOk r ∧ _ from hpok).1
    have hqok := hp.ok q (by simp)
    have hqf := hp.few q (by simp)
    have d3 : dueM ns rs true [.str wd, .row r, q] = due3 ns rs wd (.row r) q := rfl
    have hrl : ¬ rowL ns (.row r) = false := by rw [h3.2]; decide
    refine ss_setD (d := prD r) 3 nd (jd_dget hu (d := prD r) (jd_ix (ds := [Pa.str wd, .row r, q].map pD) (jv 2) j_int at1 (.inr rfl)) j_str rfl) ?_
    -- follows
    refine ss_ifD0 (u := decide (wd = "follows") && lotL (rs.map Prod.fst) q) (JW.t (jw_and (jt_eqS (jd_ix (ds := [Pa.str wd, .row r, q].map pD) (jv 2) j_int at0 (.inr rfl)) j_str) fun _ => jw_and1 (jt_val (jd_f F3 ⟨(q, rs.map Prod.fst), hqok, hqf⟩ hr (jac (jd_ix (ds := [Pa.str wd, .row r, q].map pD) (jv 2) j_int at2 (.inr rfl)) (jac (jv 6) jan)))))) (fun h => ?_) fun h4 => ?_
    · rw [Bool.and_eq_true, decide_eq_true_eq] at h
      obtain ⟨rfl, ho⟩ := h
      obtain ⟨its, rfl, hst⟩ := lotL_seq ho
      have e := all_strs hst
      refine ss_retD (d := flD (lFollow r (lotOf rs (its.map D.txt)))) (jd_f F7 ⟨(r, lotOf rs (its.map D.txt)), hro, lsOk_of hb _⟩ hr (jac (jv 3) (jac (jd_f F6 ⟨(rs, its.map D.txt), r40⟩ (hr.mono (by decide)) (jac (jv 1) (jac (j_eq (d2 := sT (its.map D.txt)) (jd_ix (ds := [Pa.str "follows", .row r, .seq true its].map pD) (jv 2) j_int at2 (.inr rfl)) (by show D.tup its = D.tup _; rw [← e])) jan))) jan))) (done _ ?_)
      rw [d3]
      show (if rowL ns (.row r) = false then form0 else _) = _
      rw [if_neg hrl, if_pos ⟨rfl, ho⟩]
    have hnf : ¬ (wd = "follows" ∧ lotL (rs.map Prod.fst) q = true) := fun h => by simp [h.1, h.2] at h4
    -- open
    refine ss_ifD0 (u := !decide (wd = "open") || !ordQ ns q) (JW.t (jw_or (jt_neS (jd_ix (ds := [Pa.str wd, .row r, q].map pD) (jv 2) j_int at0 (.inr rfl)) j_str) fun _ => jw_or1 (jt_not (jt_val (jd_f F1 ⟨(q, ns), hqok, hb.n, n7⟩ (hr.mono (by decide)) (jac (jd_ix (ds := [Pa.str wd, .row r, q].map pD) (jv 2) j_int at2 (.inr rfl)) (jac (jv 0) jan))))))) (fun h => ss_retD (jv 5) (done form0 ?_)) fun h => ?_
    · rw [d3]
      show (if rowL ns (.row r) = false then form0 else _) = _
      rw [if_neg hrl, if_neg hnf, if_neg (fun h' => by simp [h'.1, h'.2] at h)]
    have h5 := g2 h
    have hwo : wd = "open" := of_decide_eq_true h5.1
    subst hwo
    obtain ⟨o, rfl, eo⟩ := ordQ_ord h5.2
    have hoo : OrOk o := hqok
    have o7 := hoo.f7
    have hpo : ("open" : Str) = "open" ∧ ordQ ns (.ord o) = true := ⟨rfl, h5.2⟩
    refine ss_setD (d := flD (lUnb rs o)) 4 nd (jd_f F4 ⟨(rs, o), hb.m, r40, by show o.length ≤ 1000; omega⟩ hr (jac (jv 1) (jac (jd_dget hu (d := sT o) (jd_ix (ds := [Pa.str "open", .row r, .ord o].map pD) (jv 2) j_int at2 (.inr rfl)) j_str rfl) jan))) ?_
    refine ss_ifD0 (u := (lUnb rs o).isNone && lbears o r) (JW.t (jw_and (jt_eq (jt_isN (d := flD (lUnb rs o)) (jv 4)) (flD_isN _)) fun _ => jw_and1 (jt_val (jd_f F8 ⟨(o, true, r), by show o.length ≤ 1000; omega⟩ (hr.mono (by decide)) (jac (jd_dget hu (d := sT o) (jd_ix (ds := [Pa.str "open", .row r, .ord o].map pD) (jv 2) j_int at2 (.inr rfl)) j_str rfl) (jac (jv 3) jan)))))) (fun h => ss_retD (d := flD (some ("borne", none))) (jd_tup (jac j_str (jac j_non jan))) (done _ ?_)) fun h => ss_retD (jv 4) (done (lUnb rs o) ?_)
    · rw [Bool.and_eq_true] at h
      rw [d3]
      show (if rowL ns (.row r) = false then form0 else _) = _
      rw [if_neg hrl, if_neg hnf, if_pos hpo]
      show (if (lUnb rs o).isNone = true ∧ lbears o r = true then _ else _) = _
      rw [if_pos h]
    · rw [d3]
      show (if rowL ns (.row r) = false then form0 else _) = _
      rw [if_neg hrl, if_neg hnf, if_pos hpo]
      show (if (lUnb rs o).isNone = true ∧ lbears o r = true then _ else _) = _
      rw [if_neg (fun h' => by simp [h'.1, h'.2] at h)]
  · refine ss_ifD0 (u := true) (jt_eq (JW.t (jw_or (w := (decide (((ps.map pD).length : Int) < 2) || !((ps.map pD).head?.getD .non).isStr)) (jt_not (jt_val (i_tuple T (d := sqD t (ps.map pD)) (jv 2) htp))) fun h => ?_)) ?_) (fun _ => ss_retD (jv 5) (done form0 ?_)) fun h => nomatch h
    · refine jw_or (jt_lt (jd_len T (ds := ps.map pD) (jv 2) hsq) j_int) fun h2 => ?_
      match ps, h2 with
      | [], h2 => simp at h2
      | p :: qs, h2 => exact jw_or1 (jt_not (jt_val (i_str T (d := pD p) (jd_ix (ds := (p :: qs).map pD) (jv 2) j_int at0 hsq) (tp_pD T p))))
    · match t, ps with
      | false, ps => rfl
      | true, [] => rfl
      | true, [p] => rfl
      | true, .str wd :: q :: qs => exact absurd ⟨wd, q, qs, rfl, rfl⟩ hg
      | true, .non :: q :: qs => exact Bool.or_true _
      | true, .bl _ :: q :: qs => exact Bool.or_true _
      | true, .int _ :: q :: qs => exact Bool.or_true _
      | true, .dic :: q :: qs => exact Bool.or_true _
      | true, .ord _ :: q :: qs => exact Bool.or_true _
      | true, .row _ :: q :: qs => exact Bool.or_true _
      | true, .seq true _ :: q :: qs => exact Bool.or_true _
      | true, .seq false _ :: q :: qs => exact Bool.or_true _
    · match t, ps with
      | false, ps => rfl
      | true, [] => rfl
      | true, [p] => cases p <;> rfl
      | true, .str wd :: q :: qs => exact absurd ⟨wd, q, qs, rfl, rfl⟩ hg
      | true, .non :: q :: qs => rfl
      | true, .bl _ :: q :: qs => rfl
      | true, .int _ :: q :: qs => rfl
      | true, .dic :: q :: qs => rfl
      | true, .ord _ :: q :: qs => rfl
      | true, .row _ :: q :: qs => rfl
      | true, .seq _ _ :: q :: qs => rfl
end
end FD
end
section
set_option maxHeartbeats 2000000
/-! the law's own defs: lots, orders, the book -/
namespace FD
open PySem PySem.Spec PyProof.Rows L2
theorem LsOk.sub {ls ms : List Rc} (h : LsOk ls) (s : ms.Sublist ls) : LsOk ms :=
  ⟨⟨fun r hr => h.sb.rw r (s.subset hr), Nat.le_trans s.length_le h.sb.r40, Nat.lt_of_le_of_lt (flatMap_len_le _ s) h.sb.fw, Nat.lt_of_le_of_lt (flatMap_len_le _ s) h.sb.fw2⟩,
   ⟨fun x hx => h.m.ok x ((List.Sublist.map Prod.fst s).subset hx), h.m.nd.sublist (List.Sublist.map Prod.fst s)⟩⟩
theorem jt_any {X : Cx} {g : Bg} {ρ : List Slot} {c : Expr} {b : Bool} (h : JTD X g ρ c b) : JT X g ρ c (fun _ => True) := h.imp fun _ _ => trivial
theorem SS.monoB {X : Cx} {g : Bg} {ρ : List Slot} {sts : List Stmt} {R : D → Prop} {N C B1 B2 : List Slot → Prop} (h : SS X g ⟨R, N, C, B1⟩ ρ sts) (k : ∀ ρ, B1 ρ → B2 ρ) : SS X g ⟨R, N, C, B2⟩ ρ sts :=
  .mk fun B σ M H D E O => h B σ M H D E ⟨O.rt, O.nx, O.ct, fun ρ' σ' M' H' hb => O.bk ρ' σ' M' H' (k _ hb)⟩
/-- a for with a break: Qd is what holds behind it -/
theorem ss_forQ {X : Cx} {g : Bg} {ρ : List Slot} {tg iter : Expr} {body rest : List Stmt} {pos : Pos} {po : Po} {Pi : List D → Prop} (vs : List Nat) (Qd : List Slot → Prop) (hc : X.calm = true) (hp : PassesOwn (model X.prog X.w) X.A X.env X.xe) (hi : JI X g ρ tg iter Pi) (I : List D → Nat → List Slot → Prop) (h0 : ∀ its, Pi its → I its 0 ρ)
    (turn : ∀ its i d ρ1, Pi its → its[i]? = some d → I its i ρ1 → ∃ ρ', JG X g ρ1 vs tg d ρ' ∧ SS X g ⟨po.R, I its (i + 1), I its (i + 1), Qd⟩ ρ' body)
    (hI : ∀ its ρ1, Pi its → I its its.length ρ1 → Qd ρ1) (fin : ∀ ρ1, Qd ρ1 → SS X g po ρ1 rest) (hs : ∀ x, foldedSetIterable iter X.env x = pure x := by intro _; rfl) : SS X g po ρ (.For tg iter body [] pos :: rest) :=
  ss_for vs hc hp hi I h0 (fun its i d ρ1 h1 h2 h3 => let ⟨ρ', a, b⟩ := turn its i d ρ1 h1 h2 h3; ⟨ρ', a, b.monoB fin⟩) (fun its ρ1 h1 h2 => fin ρ1 (hI its ρ1 h1 h2)) hs
section
variable {P : Program} {w : World} {K : PySem.W.Frag} {mg : Str → Option Value} {base : Heap} (T : Mo K mg)
abbrev s_l_stuck_lot : Stmt := top 158
theorem sc_l_stuck_lot : FnScope ["_law_records_here", "_law_left", "_law_turn", "_law_against", "_law_one", "_law_late", "_law_x"] ["_law_records_here"] (defScope s_l_stuck_lot) := ⟨rfl, rfl, rfl, by decide +kernel, rfl, by decide +kernel, by decide +kernel⟩
abbrev P_l_stuck_lot : Sp := Pro (ι := {ls : List Rc // LsOk ls}) (fun i => [.lst (i.1.map rcD)]) fun i d => ∃ ms : List Rc, ms.Sublist i.1 ∧ d = sT (ms.map Prod.fst)
include T
theorem F_l_stuck_lot (dn : Dn K mg "_law_stuck_lot" s_l_stuck_lot) : Fd P w K mg base "_law_stuck_lot" 1 P_l_stuck_lot := by
  refine dn.fd (fun f fd G => fn_pro (k := 0) G sc_l_stuck_lot (fun i => rfl) ?_) fun f fd G => G.binds fun _ _ _ _ _ _ us hl => match us, hl with | [_], _ => rfl
  rintro ⟨rs, hb⟩ f cdv A outer s H E hr
  have nd := sc_l_stuck_lot.nd
  have r40 := hb.sb.r40
  refine ss_setLc 1 (own := [("_law_one", 4)]) (Pi := fun z => z = rs.map rcD) rfl nd (blkOk_by (by kernel_rfl)) (ji (ds := rs.map rcD) (jv 0) (by rw [List.length_map]; omega)) (fun its i acc => ∃ ms : List Rc, ms.Sublist (rs.take i) ∧ acc = ms.map rcD) (fun _ _ => ⟨[], List.nil_sublist _, rfl⟩) ?_ ?_
  · rintro _ i d acc rfl hd ⟨ms, hm, rfl⟩ _
    obtain ⟨x, hx, rfl⟩ := map_get hd
    have hx2 := (hb.sb.rw x (List.mem_of_getElem? hx)).s
    have hl : i < rs.length := by
      rcases Nat.lt_or_ge i rs.length with h1 | h1
      · exact h1
      · rw [List.getElem?_eq_none h1] at hx; cases hx
    have et : rs.take (i + 1) = rs.take i ++ [x] := by
      rw [List.getElem?_eq_getElem hl] at hx
      cases hx
      exact List.take_succ_eq_append_getElem hl
    refine ⟨_, fun _ => True, fun z => z = rcD x, fun _ _ _ _ _ => jg_name (i := 4) nd rfl (by first | exact Or.inl rfl | exact Or.inr rfl) (by decide), fun _ _ _ _ _ => jf_one (jt_any (jt_neRw (r := x.2) (r' := ([], [])) hr.units (jd_ix (d1 := rcD x) (jv 4) j_int at1 (.inr rfl)) (jd_tup (jac (jd_tup jan) (jac (jd_tup jan) jan))) hx2.1 hx2.2 (fun _ h => nomatch h) (fun _ h => nomatch h))), fun e => ⟨fun _ _ _ _ _ => jv 4, ?_⟩, fun e => ?_⟩
    · rintro _ rfl
      exact ⟨ms ++ [x], by rw [et]; exact List.Sublist.append hm (List.Sublist.refl _), by rw [List.map_append]; rfl⟩
    · exact ⟨ms, by rw [et]; exact hm.trans (List.sublist_append_left _ _), rfl⟩
  rintro _ acc rfl ⟨ms, hm, rfl⟩ _
  rw [List.length_map, List.take_length] at hm
  refine ss_frz 1 rfl ?_
  refine ss_forQ [2] (fun ρ1 => ∃ (ms : List Rc) (a b c e g : Slot), ms.Sublist rs ∧ b.owned = false ∧ ρ1 = [.ro (.lst (rs.map rcD)), .ro (.lst (ms.map rcD)), a, b, c, e, g]) rfl PassesOwn.never (ji_range T (jd_len T (ds := rs.map rcD) (jv 0) (.inl rfl)) (by rw [List.length_map]; omega) (by omega)) (fun its i ρ1 => ∃ (ms : List Rc) (a b c e g : Slot), ms.Sublist rs ∧ b.owned = false ∧ ρ1 = [.ro (.lst (rs.map rcD)), .ro (.lst (ms.map rcD)), a, b, c, e, g]) (fun its e => ⟨ms, .any, .any, .any, .any, .any, hm, rfl, rfl⟩) ?_ (fun _ _ _ h => h) ?_
  · rintro _ i d ρ1 rfl hd ⟨ms, a, b, c, e, g, hm, hbo, rfl⟩
    have hbm := hb.sub hm
    have m40 := hbm.sb.r40
    refine ⟨_, jg_name (i := 2) nd rfl (Or.inl rfl) (by decide), ?_⟩
    refine ss_own0 3 nd ?_
    refine ss_for [4] rfl PassesOwn.never (ji (ds := ms.map rcD) (jv 1) (by rw [List.length_map]; omega)) (fun its i ρ1 => ∃ c, ρ1 = [.ro (.lst (rs.map rcD)), .ro (.lst (ms.map rcD)), .ro d, .own (((ms.take i).flatMap fun r => r.2.2).map D.str), c, e, g]) (fun its _ => ⟨c, rfl⟩) ?_ ?_
    · rintro _ i2 d2 ρ1 rfl hd2 ⟨c, rfl⟩
      obtain ⟨x, hx, rfl⟩ := map_get hd2
      have hl : i2 < ms.length := by
        rcases Nat.lt_or_ge i2 ms.length with h1 | h1
        · exact h1
        · rw [List.getElem?_eq_none h1] at hx; cases hx
      refine ⟨_, jg_name (i := 4) nd rfl (Or.inl rfl) (by decide), ?_⟩
      have et : (ms.take (i2 + 1)).flatMap (fun r => r.2.2) = (ms.take i2).flatMap (fun r => r.2.2) ++ x.2.2 := by
        rw [List.getElem?_eq_getElem hl] at hx
        cases hx
        rw [List.take_succ_eq_append_getElem hl, List.flatMap_append, List.flatMap_cons, List.flatMap_nil, List.append_nil]
      have hlen : ((ms.take (i2 + 1)).flatMap fun r => r.2.2).length < 64 := Nat.lt_of_le_of_lt (flatMap_len_le _ (List.take_sublist _ _)) hbm.sb.fw2
      rw [et, List.length_append] at hlen
      refine ss_extend 3 (jd_list T (d := sT x.2.2) (jd_ix (d1 := prD x.2) (jd_ix (d1 := rcD x) (jv 4) j_int at1 (.inr rfl)) j_int at1 (.inr rfl)) (.inr rfl)) rfl ?_ (by rw [List.length_map, sizeLine_eq]; omega)
      rintro _ rfl
      refine ⟨_, rfl, by rw [List.length_map, List.length_map, sizeLine_eq]; omega, ss_nil ⟨.ro (rcD x), ?_⟩⟩
      rw [et, List.map_append]
      rfl
    rintro _ ρ1 rfl ⟨c, rfl⟩
    rw [List.length_map, List.take_length]
    let ag := ms.flatMap fun r : Rc => r.2.2
    have hag : (ms.flatMap fun r : Rc => r.2.2) = ag := rfl
    rw [hag]
    refine ss_frz 3 rfl ?_
    refine ss_setLc 5 (own := [("_law_one", 4)]) (Pi := fun z => z = ms.map rcD) rfl nd (blkOk_by (by kernel_rfl)) (ji (ds := ms.map rcD) (jv 1) (by rw [List.length_map]; omega)) (fun its i acc => ∃ ls : List Rc, ls.Sublist (ms.take i) ∧ acc = ls.map rcD) (fun _ _ => ⟨[], List.nil_sublist _, rfl⟩) ?_ ?_
    · rintro _ i2 d2 acc rfl hd2 ⟨ls, hls, rfl⟩ _
      obtain ⟨x, hx, rfl⟩ := map_get hd2
      have hx2 := (hbm.sb.rw x (List.mem_of_getElem? hx))
      have hl : i2 < ms.length := by
        rcases Nat.lt_or_ge i2 ms.length with h1 | h1
        · exact h1
        · rw [List.getElem?_eq_none h1] at hx; cases hx
      have et : ms.take (i2 + 1) = ms.take i2 ++ [x] := by
        rw [List.getElem?_eq_getElem hl] at hx
        cases hx
        exact List.take_succ_eq_append_getElem hl
      let q := x.2.1.filter fun s => !decide (s ∈ ag)
      have hq : SOk q := fun s hs => hx2.s.1 s (List.mem_filter.mp hs).1
      refine ⟨_, fun _ => True, fun z => z = rcD x, fun _ _ _ _ _ => jg_name (i := 4) nd rfl (by first | exact Or.inl rfl | exact Or.inr rfl) (by decide), fun _ _ _ _ _ => jf_one (jt_any (jt_eqSL (ss := q) (zs := []) hr.units (j_eq (jd_lc (own := [("_law_x", 6)]) x.2.1 D.str (fun s => !decide (s ∈ ag)) D.str rfl nd (blkOk_by (by kernel_rfl)) (ji (ds := x.2.1.map D.str) (jd_ix (d1 := prD x.2) (jd_ix (d1 := rcD x) (jv 4) j_int at1 (.inr rfl)) j_int at0 (.inr rfl)) (by rw [List.length_map]; have := hx2.f1; omega) (.inr rfl)) fun s _ => ⟨_, fun _ _ _ _ _ => jg_name (i := 6) nd rfl (by first | exact Or.inl rfl | exact Or.inr rfl) (by decide), fun _ _ _ _ _ => jf_one (jt_ninS (ss := ag) (jv 6) (jv 3) (.inl rfl)), fun _ _ _ _ _ _ => jv 6⟩) rfl) (jd_lst jan) hq fun _ h => nomatch h)), fun e => ⟨fun _ _ _ _ _ => jv 4, ?_⟩, fun e => ?_⟩
      · rintro _ rfl
        exact ⟨ls ++ [x], by rw [et]; exact List.Sublist.append hls (List.Sublist.refl _), by rw [List.map_append]; rfl⟩
      · exact ⟨ls, by rw [et]; exact hls.trans (List.sublist_append_left _ _), rfl⟩
    rintro _ acc rfl ⟨ls, hls, rfl⟩ _
    rw [List.length_map, List.take_length] at hls
    refine ss_frz 5 rfl ?_
    refine ss_ifD0 (jt_eqI (jd_len T (ds := ls.map rcD) (jv 5) (.inl rfl)) (jd_len T (ds := ms.map rcD) (jv 1) (.inl rfl))) (fun _ => ss_break ?_) fun _ => ?_
    · exact ⟨ms, .ro d, .ro (.lst (ag.map D.str)), c, .ro (.lst (ls.map rcD)), g, hm, rfl, rfl⟩
    · refine ss_setD (d := .lst (ls.map rcD)) 1 nd (jv 5) (ss_nil ⟨ls, .ro d, .ro (.lst (ag.map D.str)), c, .ro (.lst (ls.map rcD)), g, hls.trans hm, rfl, rfl⟩)
  · rintro ρ1 ⟨ms, a, b, c, e, g, hm, hbo, rfl⟩
    have m40 := (hb.sub hm).sb.r40
    refine ss_ret (P := fun z => z = sT (ms.map Prod.fst)) (j_eq (jd_tuple T (ds := ms.map fun r => D.str r.1) (jd_lcm (own := [("_law_one", 4)]) ms rcD (fun r => D.str r.1) rfl nd (blkOk_by (by kernel_rfl)) (ji (ds := ms.map rcD) (jv 1) (by rw [List.length_map]; omega)) fun r _ => ⟨_, fun _ _ _ _ _ => jg_name (i := 4) nd rfl (by first | exact Or.inl rfl | exact Or.inr rfl) (by decide), fun _ _ _ _ _ => jd_ix (d1 := rcD r) (jv 4) j_int at0 (.inr rfl)⟩) (.inl rfl)) (by show D.tup _ = D.tup ((ms.map Prod.fst).map D.str); rw [List.map_map]; rfl)) ?_
    rintro _ rfl
    exact ⟨ms, hm, rfl⟩
end
end FD
end
section
set_option maxHeartbeats 2000000
/-! the law's own defs: core -/
namespace FD
open PySem PySem.Spec PyProof.Rows L2
/-- some names, not many -/
def Sme (ss : List Str) : Prop := ss.length ≤ 40 ∧ ∀ s ∈ ss, nm s = true
theorem Sme.of {ls ms : List Rc} (h : LsOk ls) (s : ms.Sublist ls) : Sme (ms.map Prod.fst) := ⟨by rw [List.length_map]; exact (h.sub s).sb.r40, (h.sub s).m.ok⟩
theorem Sme.sok {ss : List Str} (h : Sme ss) : SOk ss := fun s hs => nm_ok (h.2 s hs)
section
variable {P : Program} {w : World} {K : PySem.W.Frag} {mg : Str → Option Value} {base : Heap} (T : Mo K mg)
abbrev s_l_core : Stmt := top 159
theorem sc_l_core : FnScope ["_law_records_here", "_law_lot", "_law_one", "_law_left", "_law_x"] ["_law_records_here"] (defScope s_l_core) := ⟨rfl, rfl, rfl, by decide +kernel, rfl, by decide +kernel, by decide +kernel⟩
abbrev P_l_core : Sp := Pro (ι := {ls : List Rc // LsOk ls}) (fun i => [.lst (i.1.map rcD)]) fun i d => ∃ ss, Sme ss ∧ d = sT ss
include T
theorem F_l_core (dn : Dn K mg "_law_core" s_l_core) (F1 : Fd P w K mg base "_law_stuck_lot" 1 P_l_stuck_lot) : Fd P w K mg base "_law_core" 2 P_l_core := by
  refine dn.fd (fun f fd G => fn_pro (k := 1) G sc_l_core (fun i => rfl) ?_) fun f fd G => G.binds fun _ _ _ _ _ _ us hl => match us, hl with | [_], _ => rfl
  rintro ⟨rs, hb⟩ f cdv A outer s H E hr
  have nd := sc_l_core.nd
  have r40 := hb.sb.r40
  refine ss_set (P := fun d => ∃ ss, Sme ss ∧ d = sL ss) 1 nd (jp_list T (P1 := fun d => ∃ ms : List Rc, ms.Sublist rs ∧ d = sT (ms.map Prod.fst)) (jd_f F1 ⟨rs, hb⟩ hr (jac (jv 0) jan)) (by
    rintro _ ⟨ms, hm, rfl⟩
    exact ⟨_, .inr rfl, _, Sme.of hb hm, rfl⟩)) ?_
  rintro _ ⟨ss, hss, rfl⟩
  refine ss_for [2] rfl PassesOwn.never (ji (ds := ss.map D.str) (jd_list T (d := sL ss) (jv 1) (.inl rfl)) (by rw [List.length_map]; have := hss.1; omega) (.inl rfl)) (fun its i ρ1 => ∃ (zs : List Str) (a b c : Slot), Sme zs ∧ b.owned = false ∧ ρ1 = [.ro (.lst (rs.map rcD)), .ro (sL zs), a, b, c]) (fun its e => ⟨ss, .any, .any, .any, hss, rfl, rfl⟩) ?_ ?_
  · rintro _ i d ρ1 rfl hd ⟨zs, a, b, c, hzs, hbo, rfl⟩
    obtain ⟨one, ho, rfl⟩ := map_get hd
    refine ⟨_, jg_name (i := 2) nd rfl (Or.inr rfl) (by decide), ?_⟩
    refine ss_setLc 3 (own := [("_law_x", 4)]) (Pi := fun z => z = rs.map rcD) rfl nd (blkOk_by (by kernel_rfl)) (ji (ds := rs.map rcD) (jv 0) (by rw [List.length_map]; omega)) (fun its i acc => ∃ ls : List Rc, ls.Sublist (rs.take i) ∧ acc = ls.map rcD) (fun _ _ => ⟨[], List.nil_sublist _, rfl⟩) ?_ ?_
    · rintro _ i2 d2 acc rfl hd2 ⟨ls, hls, rfl⟩ _
      obtain ⟨x, hx, rfl⟩ := map_get hd2
      have hl : i2 < rs.length := by
        rcases Nat.lt_or_ge i2 rs.length with h1 | h1
        · exact h1
        · rw [List.getElem?_eq_none h1] at hx; cases hx
      have et : rs.take (i2 + 1) = rs.take i2 ++ [x] := by
        rw [List.getElem?_eq_getElem hl] at hx
        cases hx
        exact List.take_succ_eq_append_getElem hl
      refine ⟨_, fun _ => True, fun z => z = rcD x, fun _ _ _ _ _ => jg_name (i := 4) nd rfl (by first | exact Or.inl rfl | exact Or.inr rfl) (by decide), fun _ _ _ _ _ => jf_one (jt_any (JW.t (jw_and (jt_inS (ss := zs) (jd_ix (d1 := rcD x) (jv 4) j_int at0 (.inr rfl)) (jv 1) (.inl rfl)) fun _ => jw_and1 (jt_neS (jd_ix (d1 := rcD x) (jv 4) j_int at0 (.inr rfl)) (jv 2))))), fun e => ⟨fun _ _ _ _ _ => jv 4, ?_⟩, fun e => ?_⟩
      · rintro _ rfl
        exact ⟨ls ++ [x], by rw [et]; exact List.Sublist.append hls (List.Sublist.refl _), by rw [List.map_append]; rfl⟩
      · exact ⟨ls, by rw [et]; exact hls.trans (List.sublist_append_left _ _), rfl⟩
    rintro _ acc rfl ⟨ls, hls, rfl⟩ _
    rw [List.length_map, List.take_length] at hls
    refine ss_frz 3 rfl ?_
    refine ss_if0 (Pb := fun _ => True) ?_ (fun _ => ?_) fun _ => ss_nil ⟨zs, .ro (.str one), .ro (.lst (ls.map rcD)), c, hzs, rfl, rfl⟩
    · refine jt_cmp (P1 := fun d => ∃ ms : List Rc, ms.Sublist ls ∧ d = sT (ms.map Prod.fst)) (P2 := fun d => d = .tup []) (op_neD hr.units) (jd_f F1 ⟨ls, hb.sub hls⟩ hr (jac (jv 3) jan)) (jd_tup jan) ?_
      rintro _ _ v1 v2 M H ⟨ms, hm, rfl⟩ rfl A i1 i2 Q k
      have hs := (Sme.of (hb.sub hls) hm).sok
      exact ⟨_, _, i1.dp A toPy_strsT, i2.dp A (toPy_strsT (ss := [])), shaped_strsT hs, rfl, k.here A ⟨_, rfl, trivial⟩ (.bl _)⟩
    · refine ss_set (P := fun d => ∃ us, Sme us ∧ d = sL us) 1 nd ((jd_lc (own := [("_law_x", 4)]) zs D.str (fun x => !decide (x = one)) D.str rfl nd (blkOk_by (by kernel_rfl)) (ji (ds := zs.map D.str) (jv 1) (by rw [List.length_map]; have := hzs.1; omega) (.inl rfl)) fun x _ => ⟨_, fun _ _ _ _ _ => jg_name (i := 4) nd rfl (by first | exact Or.inl rfl | exact Or.inr rfl) (by decide), fun _ _ _ _ _ => jf_one (jt_neS (jv 4) (jv 2)), fun _ _ _ _ _ _ => jv 4⟩).imp (by
        rintro _ rfl
        exact ⟨zs.filter fun x => !decide (x = one), ⟨Nat.le_trans (List.length_filter_le _ _) hzs.1, fun s hs => hzs.2 s (List.mem_filter.mp hs).1⟩, rfl⟩)) ?_
      rintro _ ⟨us, hus, rfl⟩
      exact ss_nil (ss_nil ⟨us, .ro (.str one), .ro (.lst (ls.map rcD)), c, hus, rfl, rfl⟩)
  · rintro _ ρ1 rfl ⟨zs, a, b, c, hzs, hbo, rfl⟩
    refine ss_ret (P := fun d => d = sT zs) (jd_tuple T (d := sL zs) (jv 1) (.inl rfl)) ?_
    rintro _ rfl
    exact ⟨zs, hzs, rfl⟩
end
end FD
end
section
set_option maxHeartbeats 2000000
/-! the law's own defs: perms -/
namespace FD
open PySem PySem.Spec PyProof.Rows L2
structure Pm (ns : List Str) (i : Nat) (L : List (List Str)) : Prop where
  z : L.length ≤ 5 ^ i
  ok : ∀ o ∈ L, o.Nodup ∧ (∀ s ∈ o, s ∈ ns) ∧ o.length = i
section
variable {P : Program} {w : World} {K : PySem.W.Frag} {mg : Str → Option Value} {base : Heap} (T : Mo K mg)
abbrev s_l_perms : Stmt := top 151
theorem sc_l_perms : FnScope ["_law_names_here", "_law_found", "_law_turn", "_law_later", "_law_one", "_law_x"] ["_law_names_here"] (defScope s_l_perms) := ⟨rfl, rfl, rfl, by decide +kernel, rfl, by decide +kernel, by decide +kernel⟩
abbrev P_l_perms : Sp := Pro (ι := {ns : List Str // Nms ns ∧ ns.length ≤ 5}) (fun i => [sL i.1]) fun i d => ∃ L, Pm i.1 i.1.length L ∧ d = .lst (L.map sT)
include T
theorem F_l_perms (dn : Dn K mg "_law_perms" s_l_perms) : Fd P w K mg base "_law_perms" 1 P_l_perms := by
  refine dn.fd (fun f fd G => fn_pro (k := 0) G sc_l_perms (fun i => rfl) ?_) fun f fd G => G.binds fun _ _ _ _ _ _ us hl => match us, hl with | [_], _ => rfl
  rintro ⟨ns, hn, h5⟩ f cdv A outer s H E hr
  have nd := sc_l_perms.nd
  refine ss_set (P := fun d => d = .lst [.tup []]) 1 nd (jd_lst (jac (jd_tup jan) jan)) ?_
  rintro _ rfl
  refine ss_for [2] rfl PassesOwn.never (ji_range T (i := (ns.length : Int)) (j_eq (jd_len T (jv 0)) (by rw [List.length_map])) (by omega) (by omega)) (fun its i ρ1 => ∃ (L : List (List Str)) (a b c d : Slot), Pm ns i L ∧ c.owned = false ∧ ρ1 = [.ro (sL ns), .ro (.lst (L.map sT)), a, b, c, d]) (fun its e => ⟨[[]], .any, .any, .any, .any, ⟨by decide, by simp⟩, rfl, rfl⟩) ?_ ?_
  · rintro _ i d ρ1 rfl hd ⟨L, a, b, c, e, hL, hbo, rfl⟩
    refine ⟨_, jg_name (i := 2) nd rfl (by first | exact Or.inl rfl | exact Or.inr rfl) (by decide), ?_⟩
    have hi : i < ns.length := by
      have := (List.getElem?_eq_some_iff.mp hd).1
      simpa [rng] using this
    have hz : L.length ≤ 3125 := Nat.le_trans hL.z (Nat.le_trans (Nat.pow_le_pow_right (by decide) (show i ≤ 5 by omega)) (by decide))
    have hz2 : L.length * 5 ≤ 5 ^ (i + 1) := by rw [Nat.pow_succ]; exact Nat.mul_le_mul_right 5 hL.z
    have h53 : 5 ^ (i + 1) ≤ 3125 := Nat.le_trans (Nat.pow_le_pow_right (by decide) (show i + 1 ≤ 5 by omega)) (by decide)
    refine ss_own0 3 nd ?_
    refine ss_for [4] rfl PassesOwn.never (ji (ds := L.map sT) (jv 1) (by rw [List.length_map]; omega) (.inl rfl)) (fun its j ρ1 => ∃ (Z : List (List Str)) (b e : Slot), Z.length ≤ 5 * j ∧ (∀ o ∈ Z, o.Nodup ∧ (∀ s ∈ o, s ∈ ns) ∧ o.length = i + 1) ∧ b.owned = false ∧ ρ1 = [.ro (sL ns), .ro (.lst (L.map sT)), .ro d, .own (Z.map sT), b, e]) (fun its _ => ⟨[], c, e, by simp, by simp, hbo, rfl⟩) ?_ ?_
    · rintro _ j d2 ρ1 rfl hd2 ⟨Z, b2, e2, hZ, hZo, hb2, rfl⟩
      obtain ⟨o, ho, rfl⟩ := map_get hd2
      refine ⟨_, jg_name (i := 4) nd rfl (by first | exact Or.inl rfl | exact Or.inr rfl) (by decide), ?_⟩
      have hoL := hL.ok o (List.mem_of_getElem? ho)
      have hj : j < L.length := (List.getElem?_eq_some_iff.mp ho).1
      have lf := List.length_filter_le (fun x => !decide (x ∈ o)) (srt ns)
      have ls : (srt ns).length = ns.length := srt_len ns
      refine ss_extend 3 (jd_lc (own := [("_law_x", 5)]) (srt ns) D.str (fun x => !decide (x ∈ o)) (fun x => sT (o ++ [x])) rfl nd (blkOk_by (by kernel_rfl)) (ji (ds := (srt ns).map D.str) (jd_sorted T (jv 0) (by omega)) (by rw [List.length_map]; omega) (.inl rfl)) fun x _ => ⟨_, fun _ _ _ _ _ => jg_name (i := 5) nd rfl (by first | exact Or.inl rfl | exact Or.inr rfl) (by decide), fun _ _ _ _ _ => jf_one (jt_ninS (ss := o) (jv 5) (jv 4) (.inr rfl)), fun _ _ _ _ _ _ => j_eq (jd_catT (jv 4) (jd_tup (jac (jv 5) jan)) (by rw [List.length_map, sizeLine_eq, hoL.2.2]; simp; omega)) (by simp [sT])⟩) rfl ?_ (by rw [List.length_map, sizeLine_eq]; omega)
      rintro _ rfl
      refine ⟨_, rfl, by rw [List.length_map, List.length_map, sizeLine_eq]; omega, ss_nil ⟨Z ++ ((srt ns).filter fun x => !decide (x ∈ o)).map (fun x => o ++ [x]), .ro (sT o), e2, ?_, ?_, rfl, ?_⟩⟩
      · rw [List.length_append, List.length_map]; omega
      · intro o2 h2
        rcases List.mem_append.mp h2 with h2 | h2
        · exact hZo o2 h2
        · obtain ⟨x, hx, rfl⟩ := List.mem_map.mp h2
          obtain ⟨hx1, hx2⟩ := List.mem_filter.mp hx
          have hxo : x ∉ o := by simpa using hx2
          refine ⟨List.nodup_append.mpr ⟨hoL.1, by simp, ?_⟩, fun s hs => ?_, by simp [hoL.2.2]⟩
          · rintro a ha b hb rfl
            rw [List.mem_singleton] at hb
            exact hxo (hb ▸ ha)
          · rcases List.mem_append.mp hs with h | h
            · exact hoL.2.1 s h
            · rw [List.mem_singleton] at h
              exact h ▸ srt_mem.mp hx1
      · rw [List.map_append, List.map_map]; rfl
    · rintro _ ρ1 rfl ⟨Z, b2, e2, hZ, hZo, hb2, rfl⟩
      rw [List.length_map] at hZ
      refine ss_frz 3 rfl ?_
      refine ss_setD 1 nd (jd_list T (d := .lst (Z.map sT)) (jv 3) (.inl rfl)) ?_
      exact ss_nil ⟨Z, .ro d, .ro (.lst (Z.map sT)), b2, e2, ⟨by omega, hZo⟩, hb2, rfl⟩
  · rintro _ ρ1 rfl ⟨L, a, b, c, e, hL, hbo, rfl⟩
    refine ss_ret (P := fun d => d = .lst (L.map sT)) (jv 1) ?_
    rintro _ rfl
    refine ⟨L, ?_, rfl⟩
    simpa [rng] using hL
omit T in
theorem Pm.sub {ns : List Str} {i : Nat} {L L' : List (List Str)} (h : Pm ns i L) (s : L'.Sublist L) : Pm ns i L' := ⟨Nat.le_trans s.length_le h.z, fun o ho => h.ok o (s.subset ho)⟩
abbrev s_l_fitting : Stmt := top 166
omit T in
theorem sc_l_fitting : FnScope ["_law_names_here", "_law_rows_here", "_law_order_here", "_law_row_here"] ["_law_names_here", "_law_rows_here"] (defScope s_l_fitting) := ⟨rfl, rfl, rfl, by decide +kernel, rfl, by decide +kernel, by decide +kernel⟩
abbrev P_l_fitting : Sp := Pro (ι := {p : List Str × List (Bool × Rw) // (Nms p.1 ∧ p.1.length ≤ 5) ∧ p.2.length ≤ 60}) (fun i => [sL i.1.1, .lst (i.1.2.map fun x => prK x.1 x.2)]) fun i d => ∃ L, Pm i.1.1 i.1.1.length L ∧ d = .lst (L.map sT)
theorem F_l_fitting (dn : Dn K mg "_law_fitting" s_l_fitting) (F1 : Fd P w K mg base "_law_perms" 1 P_l_perms) (F2 : Fd P w K mg base "_law_bears" 1 P_l_bears) : Fd P w K mg base "_law_fitting" 2 P_l_fitting := by
  refine dn.fd (fun f fd G => fn_pro (k := 1) G sc_l_fitting (fun i => rfl) ?_) fun f fd G => G.binds fun _ _ _ _ _ _ us hl => match us, hl with | [_, _], _ => rfl
  rintro ⟨⟨ns, qs⟩, hn, hq⟩ f cdv A outer s H E hr
  replace hn : Nms ns ∧ ns.length ≤ 5 := hn
  replace hq : qs.length ≤ 60 := hq
  have nd := sc_l_fitting.nd
  have hp5 : 5 ^ ns.length ≤ 3125 := Nat.le_trans (Nat.pow_le_pow_right (by decide) hn.2) (by decide)
  refine ss_ret (P := fun d => ∃ L, Pm ns ns.length L ∧ d = .lst (L.map sT)) (j_lc (own := [("_law_order_here", 2)]) (Pi := fun z => ∃ L : List (List Str), Pm ns ns.length L ∧ z = L.map sT) rfl nd (blkOk_by (by kernel_rfl)) (ji_seq (jd_f F1 ⟨ns, hn⟩ hr (jac (jv 0) jan)) (by
    rintro _ ⟨L, hL, rfl⟩
    exact ⟨L.map sT, .inl rfl, by rw [List.length_map]; exact Nat.le_trans hL.z (Nat.le_trans hp5 (by decide)), L, hL, rfl⟩)) (fun its i acc => ∃ L L' : List (List Str), Pm ns ns.length L ∧ its = L.map sT ∧ L'.Sublist (L.take i) ∧ acc = L'.map sT) (by rintro _ ⟨L, hL, rfl⟩; exact ⟨L, [], hL, rfl, List.nil_sublist _, rfl⟩) ?_ ?_) fun d h => h
  · rintro _ i d acc _ hd ⟨L, L', hL, rfl, hs, rfl⟩ _
    obtain ⟨o, ho, rfl⟩ := map_get hd
    have hoL := hL.ok o (List.mem_of_getElem? ho)
    have et : L.take (i + 1) = L.take i ++ [o] := by
      obtain ⟨h1, h2⟩ := List.getElem?_eq_some_iff.mp ho
      rw [← h2]; exact List.take_succ_eq_append_getElem h1
    refine ⟨_, fun _ => True, fun z => z = sT o, fun _ _ _ _ _ => jg_name (i := 2) nd rfl (by first | exact Or.inl rfl | exact Or.inr rfl) (by decide), fun _ _ _ _ _ => jf_one (jt_any (jt_val (jd_allc (xs := qs) (f := fun x => lbears o x.2) T rfl (jd_lcm (own := [("_law_row_here", 3)]) qs (fun x => prK x.1 x.2) _ rfl nd (blkOk_by (by kernel_rfl)) (ji (ds := qs.map fun x => prK x.1 x.2) (jv 1) (by rw [List.length_map]; omega) (.inl rfl)) fun x _ => ⟨_, fun _ _ _ _ _ => jg_name (i := 3) nd rfl (by first | exact Or.inl rfl | exact Or.inr rfl) (by decide), fun _ _ _ _ _ => jd_f F2 ⟨(o, x.1, x.2), by show o.length ≤ 1000; omega⟩ hr (jac (jv 2) (jac (jv 3) jan))⟩)))), fun e => ⟨fun _ _ _ _ _ => jv 2, ?_⟩, fun e => ?_⟩
    · rintro _ rfl
      exact ⟨L, L' ++ [o], hL, rfl, by rw [et]; exact hs.append (List.Sublist.refl _), by rw [List.map_append]; rfl⟩
    · exact ⟨L, L', hL, rfl, by rw [et]; exact hs.trans (List.sublist_append_left _ _), rfl⟩
  · rintro _ acc _ ⟨L, L', hL, rfl, hs, rfl⟩ _
    rw [List.length_map, List.take_length] at hs
    exact ⟨L', hL.sub hs, rfl⟩
end
end FD
end
section
set_option maxHeartbeats 2000000
/-! the law's own defs: book -/
namespace FD
open PySem PySem.Spec PyProof.Rows L2
theorem BkOk.pre {ns : List Str} {rs ls : List Rc} (h : BkOk ns rs) (s : ls.Sublist rs) : BkOk ns ls :=
  ⟨h.n, h.n0, h.n7, ⟨fun x hx => h.m.ok x ((s.map _).subset hx), (s.map _).nodup h.m.nd⟩, Nat.le_trans s.length_le h.r40, fun r hr => h.rw r (s.subset hr), fun r hr => h.cov r (s.subset hr), Nat.lt_of_le_of_lt (flatMap_len_le _ s) h.fw, Nat.lt_of_le_of_lt (flatMap_len_le _ s) h.fw2⟩
section
variable {P : Program} {w : World} {K : PySem.W.Frag} {mg : Str → Option Value} {base : Heap} (T : Mo K mg)
abbrev s_l_book : Stmt := top 156
theorem sc_l_book : FnScope ["_law_names_here", "_law_records_here", "_law_made", "_law_one", "_law_row_here"] ["_law_names_here", "_law_records_here"] (defScope s_l_book) := ⟨rfl, rfl, rfl, by decide +kernel, rfl, by decide +kernel, by decide +kernel⟩
abbrev P_l_book : Sp := Pro (ι := {p : List Str × List Rc // BkOk p.1 p.2 ∧ ∀ r ∈ p.2, rowS r.2 = r.2}) (fun i => [sL i.1.1, .lst (i.1.2.map rcD)]) fun i d => d = bookI T i.1.1 i.1.2
include T
theorem F_l_book (dn : Dn K mg "_law_book" s_l_book) (F1 : Fd P w K mg base "_law_real_row" 6 (P_l_real_row T)) (F2 : As P w K mg base T.cB 6 (P_badd T)) (F3 : Mc P w K mg base T.cB 4 (P_Book T)) : Fd P w K mg base "_law_book" 7 (P_l_book T) := by
  refine dn.fd (fun f fd G => fn_pro (k := 6) G sc_l_book (fun i => rfl) ?_) fun f fd G => G.binds fun _ _ _ _ _ _ us hl => match us, hl with | [_, _], _ => rfl
  rintro ⟨⟨ns, rs⟩, hb, hw⟩ f cdv A outer s H E hr
  replace hb : BkOk ns rs := hb
  replace hw : ∀ r ∈ rs, rowS r.2 = r.2 := hw
  have nd := sc_l_book.nd
  have r40 := hb.r40
  obtain ⟨fa, rca, ca, Fa⟩ := F2
  refine ss_setD 2 nd (d := bookI T ns []) (jd_mk F3 ⟨(false, ns, []), hb.pre (List.nil_sublist _)⟩ (hr.mono (by decide)) T.gB (jac (jd_list T (d := sL ns) (jv 0) (.inl rfl)) jan)) ?_
  refine ss_for [3, 4] rfl PassesOwn.never (ji (ds := rs.map rcD) (jv 1) (by rw [List.length_map]; omega) (.inl rfl)) (fun its i ρ1 => ∃ (a b : Slot), ρ1 = [.ro (sL ns), .ro (.lst (rs.map rcD)), .ro (bookI T ns (rs.take i)), a, b]) (fun its e => ⟨.any, .any, rfl⟩) ?_ ?_
  · rintro _ i d ρ1 rfl hd ⟨a, b, rfl⟩
    obtain ⟨x, hx, rfl⟩ := map_get hd
    have hxm := List.mem_of_getElem? hx
    have et : rs.take (i + 1) = rs.take i ++ [x] := by
      obtain ⟨h1, h2⟩ := List.getElem?_eq_some_iff.mp hx
      rw [← h2]; exact List.take_succ_eq_append_getElem h1
    refine ⟨_, jg_two (i := 3) (j := 4) rfl nd rfl (Or.inl rfl) rfl (Or.inl rfl) (by decide) (by decide) rfl, ?_⟩
    refine ss_setD 2 nd (d := bookI T ns (rs.take (i + 1))) (jd_plus ca Fa ⟨(ns, rs.take i, x), by rw [← et]; exact hb.pre (List.take_sublist _ _)⟩ hr (ds := [.str x.1, rowI T x.2]) (jv 2) (jd_tup (jac (jv 3) (jac (jd_f F1 ⟨x.2, hb.rw x hxm⟩ hr (jac (jv 4) jan) (hp := by rintro _ rfl; rw [hw x hxm])) jan))) rfl (by rintro _ rfl; exact ⟨_, _, rfl⟩) (by rintro _ rfl; exact congrArg (bookI T ns) et.symm)) ?_
    exact ss_nil ⟨_, _, rfl⟩
  · rintro _ ρ1 rfl ⟨a, b, rfl⟩
    refine ss_ret (P := fun d => d = bookI T ns rs) (j_eq (jv 2) (by rw [List.length_map, List.take_length])) fun d h => h
end
end FD
end
section
set_option maxHeartbeats 2000000
/-! drawing from the bag -/
namespace FD
open PySem PySem.Spec PyProof.Rows L2
section
variable {X : Cx} {σ : L2.St} {H H1 H' M : Hp} {e a b c o : Expr} {es : List Expr} {pos p pos' p2 px tpos spos kp : Pos} {x : Str} {v w : V} {i j k : Int} {vs : List V} {D : Ends} {st : Stmt} {rest body orelse : List Stmt} {u z : Bool} {p0 : Addr}
/-- e gives v here, and nothing else happens -/
def Jp (X : Cx) (σ : L2.St) (H : Hp) (e : Expr) (v : V) : Prop := ∀ Q : VK, Q v H → We X e σ H Q
def Jtp (X : Cx) (σ : L2.St) (H : Hp) (e : Expr) (b : Bool) : Prop := ∀ Q : Bool → Hp → Prop, Q b H → Wt X e σ H Q
theorem q_of {te : TE} (h : PE X e te) (k : ∀ Q : VK, Q v H → te σ H Q) : Jp X σ H e v := fun Q q => w_e h (k Q q)
theorem qt_of {t : TT} (h : PT X e t) (k : ∀ Q : Bool → Hp → Prop, Q u H → t σ H Q) : Jtp X σ H e u := fun Q q => w_t h (k Q q)
theorem q_int {k} : Jp X σ H (.Constant (.int i) k pos) (.int i) := q_of pe_int fun Q q => q
theorem q_var (n : Nat) (h : σ[n]? = some (some v)) (hN : X.N[n]? = some x := by rfl) (hv : Vis X.env.scope x := by first | exact Or.inl rfl | exact Or.inr (Or.inl rfl)) (hd : (x == ("__debug__" : Str)) = false := by decide) (hcd : (x == ("__classdict__" : Str)) = false := by decide) : Jp X σ H (.Name x pos) v :=
  q_of (pe_var hN hv hd hcd) fun Q q => ⟨v, h, q⟩
theorem q_ix (ha : Jp X σ H a (.ref p0)) (hH : H p0 = some (.lst vs)) (hb : Jp X σ H b (.int i)) (hi : atI vs i = some v) (hs : PlainIx b := by intro _ _; rfl) : Jp X σ H (.Subscript a b pos) v :=
  q_of (pe_ix ix_seq pe_W pe_W hs) fun Q q => ha _ (hb _ (.inl ⟨p0, vs, i, v, rfl, rfl, SqL.of hH, hi, q⟩))
theorem q_op {op : Operator} {C : Int → Int → Prop} {f : Int → Int → V} (ho : OpR X (binaryOp op) (rI C f)) (ha : Jp X σ H a (.int i)) (hb : Jp X σ H b (.int j)) (hc : C i j) (e : f i j = v) : Jp X σ H (.BinOp a op b pos) v :=
  q_of (pe_op ho pe_W pe_W) fun Q q => ha _ (hb _ ⟨i, j, rfl, rfl, hc, e ▸ q⟩)
theorem q_add (ha : Jp X σ H a (.int i)) (hb : Jp X σ H b (.int j)) : Jp X σ H (.BinOp a .Add b pos) (.int (i + j)) := q_of (pe_op op_add pe_W pe_W) fun Q q => ha _ (hb _ ⟨i, j, rfl, rfl, q⟩)
theorem q_mul (ha : Jp X σ H a (.int i)) (hb : Jp X σ H b (.int j)) (hc : CMul i j) : Jp X σ H (.BinOp a .Mult b pos) (.int (i * j)) := q_op op_mul ha hb hc rfl
theorem q_mod (ha : Jp X σ H a (.int i)) (hb : Jp X σ H b (.int j)) (hc : 0 < j) : Jp X σ H (.BinOp a .Mod b pos) (.int (i % j)) := q_op op_mod ha hb hc rfl
theorem q_div (ha : Jp X σ H a (.int i)) (hb : Jp X σ H b (.int j)) (hc : CDivN j j) (hz : 0 ≤ j) : Jp X σ H (.BinOp a .FloorDiv b pos) (.int (i / j)) := q_op op_fdivN ha hb hc (by rw [Int.fdiv_eq_ediv_of_nonneg i hz])
theorem q_pow (ha : Jp X σ H a (.int i)) (hb : Jp X σ H b (.int j)) (hc : CPow i j) : Jp X σ H (.BinOp a .Pow b pos) (.int (i ^ j.toNat)) := q_op op_pow ha hb hc rfl
theorem q_len (T : Mo X.K X.mg) (ha : Jp X σ H a (.ref p0)) (hH : H p0 = some (.lst vs)) (hg : Gl X "len" := by rfl) (he : starEach [a] X.env = (false, eval a X.env) :: starEach [] X.env := by rfl) : Jp X σ H (.Call (.Name "len" p) [a] [] pos) (.int (vs.length : Nat)) :=
  q_of (pe_callB call_len hg T.len bt_len (pa_cons pe_W pa_nil he) (he := he)) fun Q q => ha _ ⟨.ref p0, vs.length, rfl, .inl ⟨vs, SqL.of hH, rfl⟩, q⟩
theorem q_int1 (T : Mo X.K X.mg) (ha : Jp X σ H a (.int i)) (hg : Gl X "int" := by rfl) (he : starEach [a] X.env = (false, eval a X.env) :: starEach [] X.env := by rfl) : Jp X σ H (.Call (.Name "int" p) [a] [] pos) (.int i) :=
  q_of (pe_callTy call_int1 hg T.int bt_int (pa_cons pe_W pa_nil he) (he := he)) fun Q q => ha _ (.inl ⟨i, rfl, q⟩)
theorem qt_cmp {op : CmpOp} {r : R2} (ho : OpR X (compareOp op) r) (ha : Jp X σ H a v) (hb : Jp X σ H b w) (hr : ∀ Q : VK, Q (.bl u) H → r v w H Q) (hm : behindInMarks op b = false := by first | exact nobehind _ (by decide) (by decide) | rfl) : Jtp X σ H (.Compare a [op] [b] pos) u :=
  qt_of (pt_cmpR ho pe_W pe_W hm) fun Q q => ha _ (hb _ (hr _ ⟨u, rfl, q⟩))
theorem qt_lt (ha : Jp X σ H a (.int i)) (hb : Jp X σ H b (.int j)) : Jtp X σ H (.Compare a [.Lt] [b] pos) (decide (i < j)) := qt_cmp op_lt ha hb fun Q q => ⟨i, j, rfl, rfl, q⟩
theorem qt_gt (ha : Jp X σ H a (.int i)) (hb : Jp X σ H b (.int j)) : Jtp X σ H (.Compare a [.Gt] [b] pos) (decide (j < i)) := qt_cmp op_gt ha hb fun Q q => ⟨i, j, rfl, rfl, q⟩
theorem qt_ge (ha : Jp X σ H a (.int i)) (hb : Jp X σ H b (.int j)) : Jtp X σ H (.Compare a [.GtE] [b] pos) (decide (j ≤ i)) := qt_cmp op_ge ha hb fun Q q => ⟨i, j, rfl, rfl, q⟩
theorem qt_eq (ha : Jp X σ H a (.int i)) (hb : Jp X σ H b (.int j)) : Jtp X σ H (.Compare a [.Eq] [b] pos) (decide (i = j)) := qt_cmp op_eq ha hb fun Q q => ⟨rfl, by rw [di]; exact q⟩
theorem qt_and (ha : Jtp X σ H a u) (hb : Jtp X σ H b z) : Jtp X σ H (.BoolOp .And [a, b] pos) (u && z) := qt_of (PW.pt (pw_and pt_W (pw_and1 pt_W))) fun Q q => ha _ (by
  cases u with
  | true => rw [if_pos rfl]; exact hb _ q
  | false => rw [if_neg (by decide)]; exact q)
/-- statements -/
theorem b_nil (h : D.nx σ H) : Wb X [] D σ H := w_b pss_nil h
theorem b_cons (h : Ws X st { D with nx := fun σ' H' => Wb X rest D σ' H' } σ H) : Wb X (st :: rest) D σ H := w_b (pss_cons ps_W pss_W) h
theorem b_if (hc : Jtp X σ H c u) (k1 : u = true → Wb X body { D with nx := fun σ' H' => Wb X rest D σ' H' } σ H) (k2 : u = false → Wb X orelse { D with nx := fun σ' H' => Wb X rest D σ' H' } σ H) : Wb X (.If c body orelse pos :: rest) D σ H :=
  b_cons (w_s (ps_if pt_W pss_W pss_W) (hc _ (by
    cases u with
    | true => rw [if_pos rfl]; exact k1 rfl
    | false => rw [if_neg (by decide)]; exact k2 rfl)))
theorem b_ret (he : Jp X σ H e v) (h : D.rt v H) : Wb X (.Return (some e) pos :: rest) D σ H := b_cons (w_s (ps_ret pe_W) (he _ h))
theorem b_name (n : Nat) (hN : X.N.Nodup) (he : Jp X σ H e v) (k : Wb X rest D (σ.set n (some v)) H) (hi : X.N[n]? = some x := by rfl) (hx : Loc X.env.scope x := by first | exact Or.inl rfl | exact Or.inr rfl)
    (hs : swapsWith e (some (.Name x px)) pos.line X.env = pure false := by rfl) (hf : X.fn x = true ∨ X.env.scope.names.lookup x = some .local := by first | exact .inl rfl | exact .inr rfl | assumption) : Wb X (.Assign [.Name x px] e pos :: rest) D σ H :=
  b_cons (w_s (ps_set hN hi hx pe_W hs hf) (he _ k))
/-- x[k] = e -/
theorem b_sub {kk} (n m : Nat) (he : Jp X σ H e v) (hx : σ[n]? = some (some (.ref p0))) (hH : H p0 = some (.lst vs)) (hk : ixN vs.length k = some m) (h : Wb X rest D σ (upd H p0 (.lst (vs.set m v)))) (hN : X.N[n]? = some x := by rfl) (hv : Vis X.env.scope x := by first | exact Or.inl rfl | exact Or.inr (Or.inl rfl)) (hd : (x == ("__debug__" : Str)) = false := by decide) (hcd : (x == ("__classdict__" : Str)) = false := by decide)
    (hsa : ∀ v, assign (.Subscript (.Name x px) (.Constant (.int k) kk kp) spos) X.env v = (do
      let ov ← holding [v] (eval (.Name x px) X.env)
      let iv ← holding [v, ov] (eval (.Constant (.int k) kk kp) X.env)
      standAt spos
      holding [v, ov, iv] (setItem ov iv v)
      release [v, ov, iv] []) := by intro _; rfl) (hs : swapsWithSole [.Subscript (.Name x px) (.Constant (.int k) kk kp) spos] e pos.line X.env = pure false := by rfl) (hw : swappedStores [.Subscript (.Name x px) (.Constant (.int k) kk kp) spos] e X.env = pure none := by rfl)
    (h1 : (assignEach [.Subscript (.Name x px) (.Constant (.int k) kk kp) spos] X.env).map (·.2) = [assign (.Subscript (.Name x px) (.Constant (.int k) kk kp) spos) X.env] := by rfl) : Wb X (.Assign [.Subscript (.Name x px) (.Constant (.int k) kk kp) spos] e pos :: rest) D σ H :=
  b_cons (w_s (ps_asg pe_W (pg_sub (pe_var hN hv hd hcd) pe_int set_list hsa) hs hw h1) (he _ ⟨.ref p0, hx, p0, vs, k, m, rfl, rfl, hH, hk, h⟩))
end
section
variable {X : Cx} {σ : L2.St} {H H1 H' M : Hp} {e a b c o : Expr} {pos p pos' p2 px py pt pt2 tpos spos kp : Pos} {x y : Str} {v w : V} {i j k : Int} {vs : List V} {D : Ends} {rest : List Stmt} {p0 : Addr}
/-- x, y[k] = a, b -/
theorem b_two {kk kt k2} (l n m : Nat) (hc : X.calm = true) (hN0 : X.N.Nodup) (ha : Jp X σ H a v) (hb : Jp X σ H b w) (hy : (σ.set l (some v))[n]? = some (some (.ref p0))) (hH : H p0 = some (.lst vs)) (hk : ixN vs.length k = some m) (h : ∀ r, H r = none → Wb X rest D (σ.set l (some v)) (upd (upd H r (.tup [v, w])) p0 (.lst (vs.set m w))))
    (hl : X.N[l]? = some x := by rfl) (hx : Loc X.env.scope x := by first | exact Or.inl rfl | exact Or.inr rfl) (hN : X.N[n]? = some y := by rfl) (hv : Vis X.env.scope y := by first | exact Or.inl rfl | exact Or.inr (Or.inl rfl)) (hd : (y == ("__debug__" : Str)) = false := by decide) (hcd : (y == ("__classdict__" : Str)) = false := by decide)
    (hf : X.fn x = true ∨ X.env.scope.names.lookup x = some .local := by first | exact .inl rfl | exact .inr rfl | assumption)
    (hsa : ∀ v, assign (.Subscript (.Name y py) (.Constant (.int k) kk kp) spos) X.env v = (do
      let ov ← holding [v] (eval (.Name y py) X.env)
      let iv ← holding [v, ov] (eval (.Constant (.int k) kk kp) X.env)
      standAt spos
      holding [v, ov, iv] (setItem ov iv v)
      release [v, ov, iv] []) := by intro _; rfl)
    (hsA : (assignEach [.Name x px, .Subscript (.Name y py) (.Constant (.int k) kk kp) spos] X.env).map (·.2) = assign (.Name x px) X.env :: (assignEach [.Subscript (.Name y py) (.Constant (.int k) kk kp) spos] X.env).map (·.2) := by rfl)
    (hsB : (assignEach [.Subscript (.Name y py) (.Constant (.int k) kk kp) spos] X.env).map (·.2) = assign (.Subscript (.Name y py) (.Constant (.int k) kk kp) spos) X.env :: (assignEach [] X.env).map (·.2) := by rfl)
    (hn : (assignEach [.Name x px, .Subscript (.Name y py) (.Constant (.int k) kk kp) spos] X.env).length = 2 := by rfl) (hst : (assignEach [.Name x px, .Subscript (.Name y py) (.Constant (.int k) kk kp) spos] X.env).findIdx? (·.1) = none := by rfl)
    (he : starEach [a, b] X.env = (false, eval a X.env) :: starEach [b] X.env := by rfl) (he2 : starEach [b] X.env = (false, eval b X.env) :: starEach [] X.env := by rfl)
    (hs : swapsWithSole [.Tuple [.Name x px, .Subscript (.Name y py) (.Constant (.int k) kk kp) spos] kt pt] (.Tuple [a, b] k2 pt2) pos.line X.env = pure false := by rfl) (hw : swappedStores [.Tuple [.Name x px, .Subscript (.Name y py) (.Constant (.int k) kk kp) spos] kt pt] (.Tuple [a, b] k2 pt2) X.env = pure none := by rfl)
    (h1 : (assignEach [.Tuple [.Name x px, .Subscript (.Name y py) (.Constant (.int k) kk kp) spos] kt pt] X.env).map (·.2) = [assign (.Tuple [.Name x px, .Subscript (.Name y py) (.Constant (.int k) kk kp) spos] kt pt) X.env] := by rfl) :
    Wb X (.Assign [.Tuple [.Name x px, .Subscript (.Name y py) (.Constant (.int k) kk kp) spos] kt pt] (.Tuple [a, b] k2 pt2) pos :: rest) D σ H :=
  b_cons (w_s (ps_asg (pe_tup (pa_cons pe_W (pa_cons pe_W pa_nil he2) he)) (pg_tup hc (pgs_cons (pg_name hN0 hl hx hf) (pgs_cons (pg_sub (pe_var hN hv hd hcd) pe_int set_list hsa) pgs_nil hsB) hsA) hn hst) hs hw h1)
    (ha _ (hb _ ⟨(by show 2 ≤ sizeLine; decide), fun r hr => ⟨r, [v, w], rfl, SqT.of upd_same, rfl, v, [w], rfl, w, [], rfl, .ref p0, hy, p0, vs, k, m, rfl, rfl, by rw [upd_ne (ne_of_none hH hr)]; exact hH, hk, rfl, h r hr⟩⟩)))
end
/-! the bag -/
structure Sb (M H : Hp) (b : Addr) (ns : Addr × List Int) (H1 : Hp) (i c s n : Int) : Prop where
  st : Stp (some (b, ns)) M H M H1
  e : H1 b = some (.lst [.ref ns.1, .int i, .int c, .int s, .int n])
section
variable {M H H1 : Hp} {b : Addr} {ns : Addr × List Int} {i c s n : Int}
theorem Sb.bd (S : Sb M H b ns H1 i c s n) : M b = none ∧ M ns.1 = some (.lst (ns.2.map V.int)) ∧ 0 ≤ i ∧ i ≤ ns.2.length ∧ 0 ≤ c ∧ 0 ≤ s ∧ s < 2147483587 := by
  obtain ⟨h1, i', c', s', n', h2, h3, h4⟩ := S.st.at_.bag b ns rfl
  rw [S.e] at h2
  cases h2
  exact ⟨h1, h3, h4⟩
theorem Sb.of (A : At (some (b, ns)) M H) : ∃ i c s n, Sb M H b ns H i c s n := by
  obtain ⟨h1, i, c, s, n, h2, h3, h4⟩ := A.bag b ns rfl
  exact ⟨i, c, s, n, Stp.refl A, h2⟩
theorem Sb.put (S : Sb M H b ns H1 i c s n) {i' c' s' n' : Int} (h : 0 ≤ i' ∧ i' ≤ ns.2.length ∧ 0 ≤ c' ∧ 0 ≤ s' ∧ s' < 2147483587) : Sb M H b ns (upd H1 b (.lst [.ref ns.1, .int i', .int c', .int s', .int n'])) i' c' s' n' := by
  obtain ⟨h1, h3, _⟩ := S.bd
  refine ⟨⟨⟨fun a u e => ?_, fun b' ns' e => ?_⟩, S.st.mm, S.st.fr, fun a o e k => ?_, fun a h => ?_⟩, upd_same⟩
  · rw [upd_ne (ne_of_none e h1)]; exact S.st.at_.sub a u e
  · cases e
    exact ⟨h1, i', c', s', n', upd_same, h3, h⟩
  · have q : a ≠ b := fun z => k ns (by rw [z])
    rw [upd_ne q]; exact S.st.hh a o e k
  · by_cases q : a = b
    · subst q; rw [upd_same]; exact fun z => nomatch z
    · rw [upd_ne q]; exact S.st.dom a h
theorem Sb.tup (S : Sb M H b ns H1 i c s n) {r : Addr} (hr : H1 r = none) (o : HO) : Sb M H b ns (upd H1 r o) i c s n :=
  ⟨S.st.trans (Stp.tmp S.st.at_ hr o), by rw [upd_ne (ne_of_none S.e hr)]; exact S.e⟩
theorem Sb.script (S : Sb M H b ns H1 i c s n) : H1 ns.1 = some (.lst (ns.2.map V.int)) := S.st.at_.sub _ _ S.bd.2.1
end
section
variable {P : Program} {w : World} {K : PySem.W.Frag} {mg : Str → Option Value} {base : Heap} (T : Mo K mg)
abbrev s_l_pull : Stmt := top 142
theorem sc_l_pull : FnScope ["_law_bag", "_law_sides", "_law_seed", "_law_cell", "_law_digit"] ["_law_bag", "_law_sides"] (defScope s_l_pull) := ⟨rfl, rfl, rfl, by decide +kernel, rfl, by decide +kernel, by decide +kernel⟩
abbrev P_l_pull : Sp := Dro (ι := {n : Nat // 1 ≤ n ∧ n ≤ 1000000}) (fun i => [.int (i.1 : Nat)]) fun i d => ∃ k : Nat, k < i.1 ∧ d = .int (k : Nat)
def ifBody : Stmt → List Stmt
  | .If _ b _ _ => b
  | _ => []
theorem nat_mod {z : Int} {m : Nat} (h : 1 ≤ m) : ∃ k : Nat, k < m ∧ z % (m : Int) = (k : Nat) := by
  have h1 : (0 : Int) ≤ z % (m : Int) := Int.emod_nonneg z (by omega)
  have h2 : z % (m : Int) < m := Int.emod_lt_of_pos z (by omega)
  exact ⟨(z % (m : Int)).toNat, by omega, by omega⟩
include T in
theorem F_l_pull (dn : Dn K mg "_law_pull" s_l_pull) : Fd P w K mg base "_law_pull" 1 P_l_pull := by
  refine dn.fd (fun f fd G => G.ok (k := 0) sc_l_pull (fun vs H Q E ⟨i, M, b, ns, _, l, _⟩ => l.length) ?_) fun f fd G => G.binds fun _ _ _ _ _ _ us hl => match us, hl with | [_, _], _ => rfl
  rintro cdv A outer s H vs Q E hr ⟨⟨m, hm⟩, M, b, ns, A0, l, q⟩
  refine ⟨_, pss_W, ?_⟩
  have nd := sc_l_pull.nd
  cases l with
  | cons i1 t =>
  cases t with
  | cons i2 t =>
  cases t
  cases i1
  cases i2
  obtain ⟨i, c, sd, n, S0⟩ := Sb.of A0
  have hm0 : (0 : Int) < (m : Nat) := by have := hm.1; omega
  have hmd : CDivN ((m : Nat) : Int) ((m : Nat) : Int) := ⟨by omega, by have := hm.2; omega⟩
  -- the end: no digits left
  have tail2 : ∀ (x3 : Option V) (H1 : Hp) (i c sd n : Int), Sb M H b ns H1 i c sd n → Wb (Xc P w K mg base ["_law_bag", "_law_sides", "_law_seed", "_law_cell", "_law_digit"] "_law_pull" s_l_pull f cdv A outer s H E) ((defBody s_l_pull).drop 3) { nx := fun _ H' => Q .non H', rt := Q } [some (.ref b), some (.int (m : Nat)), none, x3, none] H1 := by
    intro x3 H1 i c sd n S1
    obtain ⟨g1, g2, g3, g4, g5, g6, g7⟩ := S1.bd
    refine b_name 2 nd (q_ix (q_var 0 rfl) S1.e q_int rfl) ?_
    refine b_sub 0 3 (q_mod (q_int1 T (q_add (q_add (q_add (q_pow (q_var 2 rfl) q_int ⟨by decide, by decide, by omega⟩) (q_mul (q_var 2 rfl) q_int (.inr (by decide)))) (q_mul (q_ix (q_var 0 rfl) S1.e q_int rfl) q_int (.inr (by decide)))) q_int)) q_int (by decide)) rfl S1.e rfl ?_
    have S2 := S1.put (i' := i) (c' := c) (n' := n) (s' := (sd ^ (3 : Int).toNat + sd * 37657 + n * 1299827 + 60101) % 2147483587) ⟨g3, g4, g5, Int.emod_nonneg _ (by decide), Int.emod_lt_of_pos _ (by decide)⟩
    refine b_ret (q_mod (q_int1 T (q_add (q_div (q_ix (q_var 0 rfl) S2.e q_int rfl) q_int ⟨by decide, by decide⟩ (by decide)) (q_mul (q_mod (q_int1 T (q_ix (q_var 0 rfl) S2.e q_int rfl)) q_int (by decide)) q_int (.inr (by decide))))) (q_var 1 rfl) hm0) ?_
    obtain ⟨k, hk, e⟩ := nat_mod (z := _) hm.1
    rw [e]
    exact q (.int k) _ M _ ⟨k, hk, rfl⟩ S2.st (.int _)
  have tail : ∀ (x3 : Option V) (H1 : Hp) (i c sd n : Int), Sb M H b ns H1 i c sd n → Wb (Xc P w K mg base ["_law_bag", "_law_sides", "_law_seed", "_law_cell", "_law_digit"] "_law_pull" s_l_pull f cdv A outer s H E) ((defBody s_l_pull).drop 2) { nx := fun _ H' => Q .non H', rt := Q } [some (.ref b), some (.int (m : Nat)), none, x3, none] H1 := by
    intro x3 H1 i c sd n S1
    obtain ⟨g1, g2, g3, g4, g5, g6, g7⟩ := S1.bd
    refine b_if (qt_gt (q_ix (q_var 0 rfl) S1.e q_int rfl) q_int) (fun h => ?_) (fun h => b_nil (tail2 x3 H1 i c sd n S1))
    refine b_two 4 0 2 rfl nd (q_mod (q_int1 T (q_ix (q_var 0 rfl) S1.e q_int rfl)) (q_var 1 rfl) hm0) (q_div (q_ix (q_var 0 rfl) S1.e q_int rfl) (q_var 1 rfl) hmd (by omega)) rfl S1.e rfl ?_
    intro r hr
    have S2 := (S1.tup hr (.tup [.int (c % (m : Nat)), .int (c / (m : Nat))])).put (i' := i) (c' := c / (m : Nat)) (n' := n) (s' := sd) ⟨g3, g4, Int.ediv_nonneg g5 (by omega), g6, g7⟩
    refine b_ret (q_var 4 rfl) ?_
    obtain ⟨k, hk, e⟩ := nat_mod (z := c) hm.1
    rw [e] at S2 ⊢
    exact q (.int k) _ M _ ⟨k, hk, rfl⟩ S2.st (.int _)
  -- the start
  obtain ⟨g1, g2, g3, g4, g5, g6, g7⟩ := S0.bd
  refine b_sub 0 4 (q_add (q_ix (q_var 0 rfl) S0.e q_int rfl) q_int) rfl S0.e rfl ?_
  have S1 := S0.put (i' := i) (c' := c) (s' := sd) (n' := n + 1) ⟨g3, g4, g5, g6, g7⟩
  refine b_if (qt_and (qt_eq (q_ix (q_var 0 rfl) S1.e q_int rfl) q_int) (qt_lt (q_ix (q_var 0 rfl) S1.e q_int rfl) (q_len T (q_ix (q_var 0 rfl) S1.e q_int rfl) S1.script))) (fun h => ?_) (fun h => b_nil (tail none _ i c sd (n + 1) S1))
  rw [Bool.and_eq_true, decide_eq_true_eq, decide_eq_true_eq, List.length_map] at h
  obtain ⟨rfl, hlt⟩ := h
  obtain ⟨j, rfl⟩ : ∃ j : Nat, i = j := ⟨i.toNat, by omega⟩
  have hj : j < ns.2.length := by omega
  have hcell : atI (ns.2.map V.int) ((j : Nat) : Int) = some (.int ns.2[j]) := by
    unfold atI ixN
    rw [if_pos (by omega), List.length_map]
    simp [hj]
  refine b_two 3 0 1 rfl nd (q_ix (q_ix (q_var 0 rfl) S1.e q_int rfl) S1.script (q_ix (q_var 0 rfl) S1.e q_int rfl) hcell) (q_add (q_ix (q_var 0 rfl) S1.e q_int rfl) q_int) rfl S1.e rfl ?_
  intro r hr2
  have S2 := (S1.tup hr2 (.tup [.int ns.2[j], .int ((j : Nat) + 1)])).put (i' := (j : Nat) + 1) (c' := 0) (n' := n + 1) (s' := sd) ⟨by omega, by omega, g5, g6, g7⟩
  have fin : ∀ (H2 : Hp) (i c sd n : Int), Sb M H b ns H2 i c sd n → Wb (Xc P w K mg base ["_law_bag", "_law_sides", "_law_seed", "_law_cell", "_law_digit"] "_law_pull" s_l_pull f cdv A outer s H E) (((defBody s_l_pull).drop 2).drop 0) { nx := fun _ H' => Q .non H', rt := Q } [some (.ref b), some (.int (m : Nat)), none, some (.int ns.2[j]), none] H2 := fun H2 i c sd n S => tail _ H2 i c sd n S
  have step : ∀ (H2 : Hp) (i c sd n : Int), Sb M H b ns H2 i c sd n → Wb (Xc P w K mg base ["_law_bag", "_law_sides", "_law_seed", "_law_cell", "_law_digit"] "_law_pull" s_l_pull f cdv A outer s H E) (ifBody ((defBody s_l_pull).getD 1 (.Pass ⟨0, 0, 0, 0⟩)) |>.drop 2) ({ ({ nx := fun _ H' => Q .non H', rt := Q } : Ends) with nx := fun σ' H' => Wb (Xc P w K mg base ["_law_bag", "_law_sides", "_law_seed", "_law_cell", "_law_digit"] "_law_pull" s_l_pull f cdv A outer s H E) ((defBody s_l_pull).drop 2) { nx := fun _ H' => Q .non H', rt := Q } σ' H' } : Ends) [some (.ref b), some (.int (m : Nat)), none, some (.int ns.2[j]), none] H2 := by
    intro H2 i c sd n S
    obtain ⟨g1, g2, g3, g4, g5, g6, g7⟩ := S.bd
    refine b_sub 0 3 (q_mod (q_int1 T (q_add (q_add (q_mul (q_ix (q_var 0 rfl) S.e q_int rfl) q_int (.inr (by decide))) (q_mul (q_mod (q_int1 T (q_var 3 rfl)) q_int (by decide)) q_int (.inr (by decide)))) q_int)) q_int (by decide)) rfl S.e rfl ?_
    exact b_nil (tail _ _ i c _ n (S.put ⟨g3, g4, g5, Int.emod_nonneg _ (by decide), Int.emod_lt_of_pos _ (by decide)⟩))
  obtain ⟨k1, k2, k3, k4, k5, k6, k7⟩ := S2.bd
  refine b_if (qt_ge (q_var 3 rfl) (q_pow q_int q_int ⟨by decide, by decide, by decide⟩)) (fun h => ?_) (fun h => b_nil (step _ _ _ _ _ S2))
  have h0 : (0 : Int) ≤ ns.2[j] := Int.le_trans (by decide) (of_decide_eq_true h)
  refine b_sub 0 2 (q_var 3 rfl) rfl S2.e rfl ?_
  exact b_nil (step _ _ _ _ _ (S2.put ⟨k3, k4, h0, k6, k7⟩))
end
end FD
end
section
set_option maxHeartbeats 2000000
/-! making the bag; one of some items; a drawn order -/
namespace FD
open PySem PySem.Spec PyProof.Rows L2
/-- a for, as one statement -/
theorem w_for {X : Cx} {g : Bg} {ρ : List Slot} {tg iter : Expr} {body : List Stmt} {pos : Pos} {po : Po} {Pi : List D → Prop} {B : Ba} {σ : L2.St} {M H : Hp} {D : Ends} (vs : List Nat) (hc : X.calm = true) (hp : PassesOwn (model X.prog X.w) X.A X.env X.xe) (hi : ∀ R : It → Hp → Prop, (∀ (its : List FD.D) (J : It) (G : Hp → Prop) (Y : Nat → Hp → V → Hp → Prop) (M' H' : Hp), Pi its → Stp g M H M' H' → Walk J its.length G Y → its.length ≤ 1000000 → (∀ M2 H2, Same M' M2 → At g M2 H2 → G H2) →
      (∀ i M1 H1 x H2, i < its.length → Same M' M1 → At g M1 H1 → Y i H1 x H2 → ∃ M2 d, its[i]? = some d ∧ Stp g M1 H1 M2 H2 ∧ Is M2 d x) → R J H') → Wi X tg iter σ H R) (I : List FD.D → Nat → List Slot → Prop) (h0 : ∀ its, Pi its → I its 0 ρ)
    (turn : ∀ its i d ρ1, Pi its → its[i]? = some d → I its i ρ1 → ∃ ρ', JG X g ρ1 vs tg d ρ' ∧ SS X g { R := po.R, N := I its (i + 1), C := I its (i + 1), B := po.N } ρ' body)
    (fin : ∀ its ρ1, Pi its → I its its.length ρ1 → po.N ρ1) (E : Ev B g M H σ ρ) (O : po.Of g B M D) (hs : ∀ x, foldedSetIterable iter X.env x = pure x := by intro _; rfl) : Ws X (.For tg iter body [] pos) D σ H :=
  w_s (ps_for hp hc pi_W pg_W pss_W hs) (hi _ fun its Jt G Y M1 H1 hp s1 wk hz hG hY => by
    have E1 := E.step s1
    refine for_it wk (D := D) (fun i σ' H' => ∃ ρ' M', I its i ρ' ∧ Same M1 M' ∧ Ev B g M' H' σ' ρ') ⟨ρ, M1, h0 its hp, Same.refl _, E1⟩ ?_ ?_ ?_
    · rintro i σ' H' _ ⟨ρ', M', _, sm, E'⟩
      exact hG M' H' sm E'.at_
    · rintro i x σ' H2 H3 hi ⟨ρ', M', hI, sm, E'⟩ hy
      obtain ⟨M3, d, hd, s3, iv⟩ := hY i M' H2 x H3 hi sm E'.at_ hy
      obtain ⟨ρ2, hg, hb⟩ := turn its i d ρ' hp hd hI
      refine hg B σ' M3 H3 x _ (E'.step s3) iv fun σ2 _ E2 => ?_
      have O3 := (O.on (s1.mm.trans (sm.trans s3.mm)))
      exact hb B σ2 M3 H3 _ E2 ⟨O.rt, fun ρ4 σ4 M4 H4 h s4 E4 => ⟨ρ4, M4, h, (sm.trans s3.mm).trans s4, E4⟩, fun ρ4 σ4 M4 H4 h s4 E4 => ⟨ρ4, M4, h, (sm.trans s3.mm).trans s4, E4⟩, fun ρ4 σ4 M4 H4 h s4 E4 => O3.nx ρ4 σ4 M4 H4 h s4 E4⟩
    · rintro σ' H' ⟨ρ', M', hI, sm, E'⟩
      exact (O.on (s1.mm.trans sm)).nx ρ' σ' M' H' (fin its ρ' hp hI) (Same.refl _) E')
section
variable {P : Program} {w : World} {K : PySem.W.Frag} {mg : Str → Option Value} {base : Heap} (T : Mo K mg)
abbrev s_l_draws : Stmt := top 141
theorem sc_l_draws : FnScope ["_law_script", "_law_seed", "_law_cell"] ["_law_script"] (defScope s_l_draws) := ⟨rfl, rfl, rfl, by decide +kernel, rfl, by decide +kernel, by decide +kernel⟩
/-- a new bag over the script -/
def SpDraws (K : PySem.W.Frag) : Sp := fun vs H Q _ => ∃ (ns : List Int) (a : Addr), ns.length ≤ 63 ∧ vs = [.ref a] ∧ SqL K H a (ns.map V.int) ∧ ∀ b l M' H', H b = none → At (some (b, l, ns)) M' H' → Q (.ref b) H'
theorem cut63 {ns : List Int} (h : ns.length ≤ 63) : cutV (ns.map V.int) none (some 63) = ns.map V.int := by
  unfold cutV
  rw [HT.sIx_none, List.drop_zero, Nat.sub_zero, List.take_of_length_le]
  rw [List.length_map]
  show ns.length ≤ HT.sIx ns.length ns.length (some ((63 : Nat) : Int))
  rw [HT.sIx_nat]
  omega
/-- script[:63], where the script stands -/
theorem script_cut {X : Cx} {σ : L2.St} {H : Hp} {x : Str} {px p1 p2 p3 : Pos} {kk : Nat} {a : Addr} {ns : List Int} {Q : VK} (h : σ[0]? = some (some (.ref a))) (hs : SqL X.K H a (ns.map V.int)) (h63 : ns.length ≤ 63) (k : ∀ r, H r = none → Q (.ref r) (upd H r (.lst (ns.map V.int)))) (hN : X.N[0]? = some x := by rfl) (hv : Vis X.env.scope x := by first | exact Or.inl rfl | exact Or.inr (Or.inl rfl)) (hd : (x == ("__debug__" : Str)) = false := by decide) (hcd : (x == ("__classdict__" : Str)) = false := by decide) :
    We X (.Subscript (.Name x px) (.Slice none (some (.Constant (.int 63) kk p1)) none p2) p3) σ H Q :=
  w_e (pe_slice sl_list (pe_var hN hv hd hcd) po_none (po_some pe_int)) ⟨.ref a, h, 63, rfl, a, _, rfl, hs, fun r hr => by rw [cut63 h63]; exact k r hr⟩
include T in
theorem F_l_draws (dn : Dn K mg "_law_draws" s_l_draws) : Fd P w K mg base "_law_draws" 1 (SpDraws K) := by
  refine dn.fd (fun f fd G => G.ok (k := 0) sc_l_draws (fun vs H Q E ⟨ns, a, _, e, _⟩ => by rw [e]; rfl) ?_) fun f fd G => G.binds fun _ _ _ _ _ _ us hl => match us, hl with | [_], _ => rfl
  rintro cdv A outer s H vs Q E hr ⟨ns, a0, h63, rfl, hsq, q⟩
  refine ⟨_, pss_W, ?_⟩
  have nd := sc_l_draws.nd
  let M : Hp := fun _ => none
  have A0 : At none M H := At.pure fun _ _ e => nomatch e
  have E0 : Ev ⟨M, H⟩ none M H (L2.start ["_law_script", "_law_seed", "_law_cell"] [.ref a0]) [.ro (.adr a0), .any, .any] := ev_start A0 (ds := [.adr a0]) (.cons (.adr a0) .nil) 2
  refine b_name 1 nd (v := .int 34127) q_int ?_
  have E1 := E0.ro 1 (d := .int 34127) (.int _)
  refine b_cons (w_for (g := none) (po := ⟨fun _ => False, fun ρ1 => ∃ (z : Int) (a : Slot), 0 ≤ z ∧ z < 2147483587 ∧ ρ1 = [.ro (.adr a0), .ro (.int z), a], fun _ => False, fun _ => False⟩) (Pi := fun its => its = ns.map D.int) (B := ⟨M, H⟩) (M := M) [2] rfl PassesOwn.never
    (fun R k => w_i (pi_any pe_W) (script_cut rfl hsq h63 fun r hr => .inl ⟨r, rfl, ⟨_, SqL.of upd_same⟩, k (ns.map D.int) _ (fun H => SqL K H r (ns.map V.int)) (YAt (ns.map V.int)) _ _ rfl (Stp.new A0 hr (.lst (ns.map V.int))) ?_ (by rw [List.length_map]; omega) (fun M2 H2 s2 A2 => SqL.of (A2.sub _ _ (s2 _ _ upd_same))) ?_⟩))
    (fun its i ρ1 => ∃ (z : Int) (a : Slot), 0 ≤ z ∧ z < 2147483587 ∧ ρ1 = [.ro (.adr a0), .ro (.int z), a]) (fun its e => ⟨34127, .any, by decide, by decide, rfl⟩) ?_ (fun _ _ _ h => h) E1 ?_)
  · have e : (ns.map D.int).length = (ns.map V.int).length := by rw [List.length_map, List.length_map]
    rw [e]
    exact walk_list
  · intro i M2 H2 x H3 hi s2 A2 y
    obtain ⟨rfl, hx⟩ := y
    obtain ⟨d, h1, h2⟩ := (IsL.ofInts (M := M2) ns).back hx
    exact ⟨M2, d, h1, Stp.refl A2, h2⟩
  · rintro _ i d ρ1 rfl hd ⟨z, a, h1, h2, rfl⟩
    obtain ⟨c, hc, rfl⟩ := map_get hd
    refine ⟨_, jg_name (i := 2) nd rfl (by first | exact Or.inl rfl | exact Or.inr rfl) (by decide), ?_⟩
    refine ss_setD (d := .int ((z * 48619 + c % 2147483489 + 211) % 2147483587)) 1 nd (jd_mod (jd_int1 T (jd_add (jd_add (jd_mul (jv 1) j_int (.inr (by decide))) (jd_mod (jd_int1 T (jv 2)) j_int (by decide))) j_int)) j_int (by decide)) ?_
    exact ss_nil ⟨_, _, Int.emod_nonneg _ (by decide), Int.emod_lt_of_pos _ (by decide), rfl⟩
  · refine ⟨fun _ _ _ _ h => h.elim, fun ρ' σ' M' H' ⟨z, a, h1, h2, hρ⟩ sm' E' => ?_, fun _ _ _ _ h => h.elim, fun _ _ _ _ h => h.elim⟩
    subst hρ
    obtain ⟨v0, g0, i0⟩ := E'.get (i := 0) rfl
    obtain ⟨v1, g1, i1⟩ := E'.get (i := 1) rfl
    cases i0
    cases i1
    have hsq' : SqL K H' a0 (ns.map V.int) := Same.seq (fun b o e => E'.st.hh b o e fun _ z => nomatch z) hsq
    refine b_cons (w_s (ps_ret (pe_lst (pa_cons (pe_callTy call_list_of (by rfl) T.list bt_list (pa_cons pe_W pa_nil)) (pa_cons pe_W (pa_cons pe_W (pa_cons pe_W (pa_cons pe_W pa_nil))))))) ?_)
    refine script_cut g0 hsq' h63 fun r1 hr1 => ⟨r1, ns.map V.int, rfl, .inl (SqL.of upd_same), fun l hl => ?_⟩
    have t1 := Stp.tmp E'.at_ hr1 (.lst (ns.map V.int))
    have t2 := t1.trans (Stp.new t1.at_ hl (.lst (ns.map V.int)))
    refine (q_int : Jp _ σ' _ _ (.int 0)) _ ((q_int : Jp _ σ' _ _ (.int 0)) _ ((q_var 1 g1 : Jp _ σ' _ _ (.int z)) _ ((q_int : Jp _ σ' _ _ (.int 0)) _ ?_)))
    refine ⟨(by show 5 ≤ sizeLine; decide), fun r hr => ?_⟩
    have t3 := t2.trans (Stp.tmp t2.at_ hr (.lst [.ref l, .int 0, .int 0, .int z, .int 0]))
    have hrH : H r = none := by
      cases e : H r with
      | none => rfl
      | some o => exact absurd hr ((E'.st.trans t2).dom r (some_ne e))
    exact q r l _ _ hrH ⟨t3.at_.sub, fun b' ns' e => by
      cases e
      exact ⟨t2.at_.freeM hr, 0, 0, z, 0, upd_same, upd_same, by decide, by omega, by decide, h1, h2⟩⟩
/-! one of some items -/
abbrev s_l_any : Stmt := top 143
theorem sc_l_any : FnScope ["_law_bag", "_law_items"] ["_law_bag", "_law_items"] (defScope s_l_any) := ⟨rfl, rfl, rfl, by decide +kernel, rfl, by decide +kernel, by decide +kernel⟩
/-- .. of a list, wherever it stands -/
def SpAny : Sp := fun vs H Q _ => ∃ (M : Hp) (b : Addr) (ns : Addr × List Int) (a : Addr) (ws : List V), vs = [.ref b, .ref a] ∧ At (some (b, ns)) M H ∧ H a = some (.lst ws) ∧ a ≠ b ∧ 1 ≤ ws.length ∧ ws.length ≤ 1000000 ∧
  ∀ v M' H', v ∈ ws → Stp (some (b, ns)) M H M' H' → Q v H'
/-- .. of a text -/
abbrev P_l_anyS : Sp := Dro (ι := {z : Str // 1 ≤ z.length ∧ z.length ≤ 1000}) (fun i => [.str i.1]) fun i d => ∃ c ∈ i.1.cps.toList, d = .str ⟨#[c]⟩
theorem at_nat {α : Type} {l : List α} {k : Nat} (h : k < l.length) : atI l ((k : Nat) : Int) = some l[k] := by
  unfold atI ixN
  rw [if_pos (by omega)]
  simp [h]
include T in
theorem F_l_any (dn : Dn K mg "_law_any" s_l_any) (F1 : Fd P w K mg base "_law_pull" 1 P_l_pull) : Fd P w K mg base "_law_any" 2 SpAny := by
  refine dn.fd (fun f fd G => G.ok (k := 1) sc_l_any (fun vs H Q E ⟨_, _, _, _, _, e, _⟩ => by rw [e]; rfl) ?_) fun f fd G => G.binds fun _ _ _ _ _ _ us hl => match us, hl with | [_, _], _ => rfl
  rintro cdv A outer s H vs Q E hr ⟨M, b, ns, a, ws, rfl, A0, ha, hne, h1, h2, q⟩
  refine ⟨_, pss_W, ?_⟩
  refine b_cons (w_s (ps_ret (pe_ix ix_seq pe_W pe_W (fun _ _ => rfl))) ((q_var 1 rfl : Jp _ _ H _ (.ref a)) _ ?_))
  refine w_e (pe_f F1 hr (pa_cons pe_W (pa_cons pe_W pa_nil))) ?_
  refine (q_var 0 rfl : Jp _ _ H _ (.ref b)) _ ((q_len T (q_var 1 rfl) ha : Jp _ _ H _ _) _ ?_)
  refine ⟨⟨ws.length, h1, h2⟩, M, b, ns, A0, .cons (.adr b) (.cons (.int _) .nil), ?_⟩
  rintro _ v M' H' ⟨k, hk, rfl⟩ st iv
  cases iv
  have e' : H' a = some (.lst ws) := st.hh a _ ha fun ns' z => hne (by cases z; rfl)
  exact .inl ⟨a, ws, k, ws[k], rfl, rfl, SqL.of e', at_nat hk, q _ M' H' (List.getElem_mem hk) st⟩
include T in
theorem F_l_anyS (dn : Dn K mg "_law_any" s_l_any) (F1 : Fd P w K mg base "_law_pull" 1 P_l_pull) : Fd P w K mg base "_law_any" 2 P_l_anyS := by
  refine dn.fd (fun f fd G => G.ok (k := 1) sc_l_any (fun vs H Q E ⟨_, _, _, _, _, l, _⟩ => l.length) ?_) fun f fd G => G.binds fun _ _ _ _ _ _ us hl => match us, hl with | [_, _], _ => rfl
  rintro cdv A outer s H vs Q E hr ⟨⟨z, h1, h2⟩, M, b, ns, A0, l, q⟩
  replace h1 : 1 ≤ z.length := h1
  replace h2 : z.length ≤ 1000 := h2
  cases l with
  | cons i1 l =>
  cases l with
  | cons i2 l =>
  cases l
  cases i1
  cases i2
  refine ⟨_, pss_W, ?_⟩
  have hz : z.length ≤ sizeLine := by rw [sizeLine_eq]; omega
  refine b_cons (w_s (ps_ret (pe_ix ix_seq pe_W pe_W (fun _ _ => rfl))) ((q_var 1 rfl : Jp _ _ H _ (.str z)) _ ?_))
  refine w_e (pe_f F1 hr (pa_cons pe_W (pa_cons pe_W pa_nil))) ?_
  refine (q_var 0 rfl : Jp _ _ H _ (.ref b)) _ ?_
  refine w_e (pe_callB call_len (by rfl) T.len bt_len (pa_cons pe_W pa_nil)) ((q_var 1 rfl : Jp _ _ H _ (.str z)) _ ⟨.str z, z.length, rfl, ⟨hz, rfl⟩, ?_⟩)
  refine ⟨⟨z.length, h1, by omega⟩, M, b, ns, A0, .cons (.adr b) (.cons (.int _) .nil), ?_⟩
  rintro _ v M' H' ⟨k, hk, rfl⟩ st iv
  cases iv
  have hk2 : k < z.cps.toList.length := by rw [Array.length_toList]; exact hk
  exact .inr (.inr ⟨z, k, z.cps.toList[k], rfl, rfl, hz, at_nat hk2, q _ _ M' H' ⟨_, List.getElem_mem hk2, rfl⟩ st (.str _)⟩)
section
variable {X : Cx} {ρ : List Slot} {a e : Expr} {P1 P : D → Prop} {b0 : Addr} {ns : Addr × List Int} {p pos px : Pos} {x : Str} {ds : List D} {k : Nat}
/-- one of the items of a list -/
theorem j_any (F : Fd X.prog X.w X.K X.mg X.base "_law_any" k SpAny) (hr : Room k X.A) (ha : JD X (some (b0, ns)) ρ a (.adr b0)) (he : J X (some (b0, ns)) ρ e P1) (h : ∀ d, P1 d → ∃ ds, d = .lst ds ∧ 1 ≤ ds.length ∧ ds.length ≤ 1000000 ∧ ∀ x ∈ ds, P x) (hg : Gl X "_law_any" := by rfl)
    (hs : starEach [a, e] X.env = (false, eval a X.env) :: starEach [e] X.env := by rfl) (hs2 : starEach [e] X.env = (false, eval e X.env) :: starEach [] X.env := by rfl) (hpl : (backTo pos (starEach [e] X.env)).any (·.1) = false := by rfl) : J X (some (b0, ns)) ρ (.Call (.Name "_law_any" p) [a, e] [] pos) P :=
  j_of (pe_f F hr (pa_cons pe_W (pa_cons pe_W pa_nil hs2) hs) hg (he := hs) (hpl := hpl)) fun B σ M H E Q q => ha.at_ E fun d v M1 H1 p1 E1 s1 i1 => he.at_ E1 fun d2 v2 M2 H2 p2 E2 s2 i2 => by
    subst p1
    cases i1
    obtain ⟨ds, rfl, h1, h2, h3⟩ := h d2 p2
    cases i2 with
    | @lst l _ vs el il =>
      have hb := (E2.at_.bag b0 ns rfl).out
      refine ⟨M2, b0, ns, l, vs, rfl, E2.at_, E2.at_.sub _ _ el, ne_of_none el hb, by rw [il.length]; exact h1, by rw [il.length]; exact h2, fun v M3 H3 hv s3 => ?_⟩
      obtain ⟨n, hn⟩ := List.mem_iff_getElem?.mp hv
      obtain ⟨d, hd, iv⟩ := il.back hn
      exact q d v M3 H3 (h3 d (List.mem_of_getElem? hd)) ((s1.trans s2).trans s3) (iv.mono s3.mm)
/-- .. of one's own -/
theorem j_anyOwn (i : Nat) (F : Fd X.prog X.w X.K X.mg X.base "_law_any" k SpAny) (hr : Room k X.A) (ha : JD X (some (b0, ns)) ρ a (.adr b0)) (h : ρ[i]? = some (.own ds)) (h1 : 1 ≤ ds.length) (h2 : ds.length ≤ 1000000) (h3 : ∀ x ∈ ds, P x) (hN : X.N[i]? = some x := by rfl) (hv : Vis X.env.scope x := by first | exact Or.inl rfl | exact Or.inr (Or.inl rfl)) (hd : (x == ("__debug__" : Str)) = false := by decide) (hcd : (x == ("__classdict__" : Str)) = false := by decide) (hg : Gl X "_law_any" := by rfl)
    (hs : starEach [a, .Name x px] X.env = (false, eval a X.env) :: starEach [.Name x px] X.env := by rfl) (hs2 : starEach [.Name x px] X.env = (false, eval (.Name x px) X.env) :: starEach [] X.env := by rfl) (hpl : (backTo pos (starEach [.Name x px] X.env)).any (·.1) = false := by rfl) : J X (some (b0, ns)) ρ (.Call (.Name "_law_any" p) [a, .Name x px] [] pos) P :=
  j_of (pe_f F hr (pa_cons pe_W (pa_cons (pe_var hN hv hd hcd) pa_nil hs2) hs) hg (he := hs) (hpl := hpl)) fun B σ M H E Q q => ha.at_ E fun d v M1 H1 p1 E1 s1 i1 => by
    subst p1
    cases i1
    obtain ⟨l, vs, e1, h0, hM, hH, il⟩ := E1.gown h
    refine ⟨.ref l, e1, M1, b0, ns, l, vs, rfl, E1.at_, hH, fun z => notbag E1.a0 h0 ns (by rw [z]), by rw [il.length]; exact h1, by rw [il.length]; exact h2, fun v M3 H3 hv s3 => ?_⟩
    obtain ⟨n, hn⟩ := List.mem_iff_getElem?.mp hv
    obtain ⟨d, hd, iv⟩ := il.back hn
    exact q d v M3 H3 (h3 d (List.mem_of_getElem? hd)) (s1.trans s3) (iv.mono s3.mm)
end
/-! the items in a drawn order -/
abbrev s_l_mixed : Stmt := top 144
theorem sc_l_mixed : FnScope ["_law_bag", "_law_items", "_law_found", "_law_item"] ["_law_bag", "_law_items"] (defScope s_l_mixed) := ⟨rfl, rfl, rfl, by decide +kernel, rfl, by decide +kernel, by decide +kernel⟩
abbrev P_l_mixed : Sp := Dro (ι := {ds : List D // ds.length ≤ 100}) (fun i => [.lst i.1]) fun i d => ∃ es : List D, es.Perm i.1 ∧ d = .lst es
theorem insert_perm {α : Type} (l : List α) (x : α) (n : Nat) : (l.take n ++ [x] ++ l.drop n).Perm (l ++ [x]) := by
  have h : (l.take n ++ [x] ++ l.drop n).Perm (l.take n ++ l.drop n ++ [x]) := by
    rw [List.append_assoc, List.append_assoc]
    exact List.Perm.append_left _ List.perm_append_comm
  rwa [List.take_append_drop] at h
include T in
theorem F_l_mixed (dn : Dn K mg "_law_mixed" s_l_mixed) (F1 : Fd P w K mg base "_law_pull" 1 P_l_pull) : Fd P w K mg base "_law_mixed" 2 P_l_mixed := by
  refine dn.fd (fun f fd G => fn_dro (k := 1) G sc_l_mixed (fun i => rfl) ?_) fun f fd G => G.binds fun _ _ _ _ _ _ us hl => match us, hl with | [_, _], _ => rfl
  rintro ⟨ds, hz⟩ b ns f cdv A outer s H E hr
  replace hz : ds.length ≤ 100 := hz
  have nd := sc_l_mixed.nd
  refine ss_own0 2 nd ?_
  refine ss_for [3] rfl PassesOwn.never (ji (ds := ds) (jv 1) (by omega) (.inl rfl)) (fun its i ρ1 => ∃ (es : List D) (a : Slot), es.Perm (ds.take i) ∧ ρ1 = [.ro (.adr b), .ro (.lst ds), .own es, a]) (fun its e => ⟨[], .any, .refl _, rfl⟩) ?_ ?_
  · rintro its i d ρ1 e hd ⟨es, a, hp, rfl⟩
    have e' := e.symm
    subst e'
    refine ⟨_, jg_name (i := 3) nd rfl (by first | exact Or.inl rfl | exact Or.inr rfl) (by decide), ?_⟩
    have hl : es.length ≤ 100 := by rw [hp.length_eq, List.length_take]; omega
    have et : ds.take (i + 1) = ds.take i ++ [d] := by
      obtain ⟨h1, h2⟩ := List.getElem?_eq_some_iff.mp hd
      rw [← h2]; exact List.take_succ_eq_append_getElem h1
    refine ss_insert (P1 := fun d1 => ∃ k : Nat, k < es.length + 1 ∧ d1 = .int (k : Nat)) (P2 := fun d2 => d2 = d) 2 (jd_fb F1 ⟨es.length + 1, by omega, by omega⟩ hr (jac (jv 0) (jac (j_eq (jd_add (j_own 2 (jd_len T (ds := es) (jv 2) (.inl rfl)) (by rintro _ rfl; rfl)) j_int) (by rw [Int.natCast_add]; rfl)) jan))) (jv 3) rfl (by rw [sizeLine_eq]; omega) ?_
    rintro _ d3 ⟨k, hk, rfl⟩ e3
    refine ⟨k, rfl, by omega, ss_nil ⟨_, _, ?_, rfl⟩⟩
    rw [et, e3]
    exact (insert_perm es d k).trans (hp.append_right [d])
  · rintro its ρ1 e ⟨es, a, hp, rfl⟩
    have e' := e.symm
    subst e'
    rw [List.take_length] at hp
    refine ss_frz 2 rfl ?_
    exact ss_ret (P := fun d => d = .lst es) (jv 2) fun d h => ⟨es, hp, h⟩
end
end FD
end
section
set_option maxHeartbeats 2000000
/-! drawn names -/
namespace FD
open PySem PySem.Spec PyProof.Rows L2
def l1 (c : Nat) : Str := ⟨#[c]⟩
def lastC (s : Str) : Nat := (TL.tl s).getLast?.getD 0
theorem tl_l1 (c : Nat) : TL.tl (l1 c) = [c] := rfl
theorem nm_of {s : Str} (h1 : 1 ≤ (TL.tl s).length) (h6 : (TL.tl s).length ≤ 6) (h : ∀ c ∈ TL.tl s, c ∈ abc.cps.toList) : nm s = true := by
  unfold nm spelled
  rw [TL.len_tl, Bool.and_eq_true, Bool.and_eq_true, decide_eq_true_eq, decide_eq_true_eq, List.all_eq_true]
  exact ⟨⟨by omega, by omega⟩, fun c hc => decide_eq_true (h c hc)⟩
theorem tl_inj {s z : Str} (h : TL.tl s = TL.tl z) : s = z := by
  cases s with
  | mk x =>
    cases z with
    | mk y =>
      have : x = y := Array.toList_inj.mp h
      rw [this]
theorem tl_cutTo (z : Str) (k : Nat) : TL.tl (cutS z none (some (k : Int))) = (TL.tl z).take k := by
  unfold cutS
  rw [TL.tl_mk, HT.sIx_none, HT.sIx_nat, List.drop_zero, Nat.sub_zero, List.take_eq_take_iff, ← TL.len_tl]
  omega
theorem tl_cutFrom (z : Str) (k : Nat) : TL.tl (cutS z (some (k : Int)) none) = (TL.tl z).drop k := by
  unfold cutS
  rw [TL.tl_mk, HT.sIx_none, HT.sIx_nat, TL.len_tl]
  have e : (TL.tl z).drop (min k (TL.tl z).length) = (TL.tl z).drop k := by
    rcases Nat.le_total k (TL.tl z).length with h | h
    · rw [Nat.min_eq_left h]
    · rw [Nat.min_eq_right h, List.drop_eq_nil_of_le (Nat.le_refl _), List.drop_eq_nil_of_le h]
  show ((TL.tl z).drop _).take _ = _
  rw [e, List.take_of_length_le]
  rw [List.length_drop]
  omega
theorem joinL_nil : ∀ ps : List (List Nat), TL.joinL [] ps = ps.flatten
  | [] => rfl
  | [p] => by simp [TL.joinL]
  | p :: q :: r => by
    show p ++ ([] ++ TL.joinL [] (q :: r)) = _
    rw [joinL_nil (q :: r), List.nil_append, List.flatten_cons (l := p)]
theorem tl_join0 (ss : List Str) : TL.tl (Txt.join "" ss) = (ss.map TL.tl).flatten := by
  rw [TL.join_eq, TL.tl_join]
  exact joinL_nil _
theorem nodup_set {α : Type} {w : α} : ∀ {l : List α} (n : Nat), l.Nodup → w ∉ l → (l.set n w).Nodup
  | [], _, _, _ => .nil
  | a :: t, 0, h, hw => by
    rw [List.set_cons_zero]
    exact List.nodup_cons.mpr ⟨fun e => hw (List.mem_cons_of_mem _ e), (List.nodup_cons.mp h).2⟩
  | a :: t, n + 1, h, hw => by
    rw [List.set_cons_succ]
    refine List.nodup_cons.mpr ⟨fun e => ?_, nodup_set n (List.nodup_cons.mp h).2 fun e => hw (List.mem_cons_of_mem _ e)⟩
    rcases List.mem_or_eq_of_mem_set e with e | e
    · exact (List.nodup_cons.mp h).1 e
    · exact hw (e ▸ List.mem_cons_self)
def strides : List Nat := [1, 25, 3, 7, 11, 15, 17, 21]
def chr (f s k : Nat) : Nat := 97 + (f + s * k) % 26
theorem chr_inj {f s k1 k2 : Nat} (hs : s ∈ strides) (h1 : k1 < 26) (h2 : k2 < 26) (h : chr f s k1 = chr f s k2) : k1 = k2 := by
  unfold chr at h
  simp only [strides, List.mem_cons, List.not_mem_nil, or_false] at hs
  rcases hs with rfl | rfl | rfl | rfl | rfl | rfl | rfl | rfl <;> omega
theorem chr_abc (f s k : Nat) : chr f s k ∈ abc.cps.toList := by
  have h : ∀ m : Fin 26, 97 + m.1 ∈ abc.cps.toList := by decide
  exact h ⟨(f + s * k) % 26, Nat.mod_lt _ (by decide)⟩
theorem chr_at (f s k : Nat) : atI abc.cps.toList (((f : Nat) + (s : Nat) * ((k : Nat) : Int) : Int) % 26) = some (chr f s k) := by
  have h : ∀ m : Fin 26, abc.cps.toList[m.1]? = some (97 + m.1) := by decide
  have e : (((f : Nat) + (s : Nat) * ((k : Nat) : Int) : Int) % 26) = (((f + s * k) % 26 : Nat) : Int) := by
    rw [Int.natCast_emod, Int.natCast_add, Int.natCast_mul]
    rfl
  have hl : abc.cps.toList.length = 26 := by decide
  have hm := Nat.mod_lt (f + s * k) (show 0 < 26 by decide)
  rw [e, at_nat (by rw [hl]; exact hm)]
  have h2 := h ⟨(f + s * k) % 26, hm⟩
  rw [List.getElem?_eq_getElem (by rw [hl]; exact hm)] at h2
  exact h2
theorem chr_nodup (f s n : Nat) (hs : s ∈ strides) (hn : n ≤ 26) : ((List.range n).map (chr f s)).Nodup := by
  refine List.pairwise_map.mpr ?_
  refine List.Pairwise.imp_of_mem ?_ (List.pairwise_lt_range (n := n))
  intro a b ha hb hab e
  have h1 := List.mem_range.mp ha
  have h2 := List.mem_range.mp hb
  have := chr_inj hs (by omega) (by omega) e
  omega
def nameWords : List Str := ["even", "order", "reason", "row", "none", "sure", "ask", "a", "b", "done"]
theorem nameWords_nm : ∀ s ∈ nameWords, nm s = true := by decide +kernel
section
variable {X : Cx} {g : Bg} {ρ : List Slot} {o e : Expr} {P1 P : D → Prop} {s : Str} {pos apos : Pos}
theorem jp_join (ho : JD X g ρ o (.str s)) (he : J X g ρ e P1) (h : ∀ d, P1 d → ∃ ss : List Str, Sq d (ss.map D.str) ∧ (ss.map (·.length)).sum + ss.length * s.length ≤ 16777216 ∧ P (.str (Txt.join s ss))) (hs : starEach [e] X.env = [(false, eval e X.env)] := by rfl) (hbase : attributeBase o "join" X.env (eval o X.env) = eval o X.env := by rfl) (hline : (apos.endLine == pos.line) = true := by rfl) :
    J X g ρ (.Call (.Attribute o "join" apos) [e] [] pos) P := j_of (pe_join pe_W pe_W hs hbase hline) fun B σ M H E Q q => ho.at_ E fun d v M1 H1 p E1 s1 i1 => by
  subst p
  cases i1
  refine ⟨⟨_, rfl⟩, he.at_ E1 fun d v M2 H2 p E2 s2 i2 => ?_⟩
  obtain ⟨ss, hq, hz, hp⟩ := h d p
  obtain ⟨l, vs, rfl, il, hx⟩ := E2.at_.sq (X := X) i2 hq
  obtain rfl := il.strs
  exact ⟨s, l, ss, rfl, rfl, hx, hz, (Kn.to q (s1.trans s2)).here E2.at_ hp (.str _)⟩
end
section
variable {X : Cx} {g : Bg} {ρ : List Slot} {d d1 d2 d3 : D} {vs : List Nat} {x y z : Str} {pos : Pos}
theorem jo_nat {e : Expr} {m : Nat} (h : J X g ρ e fun d => ∃ k : Nat, k < m ∧ d = .int (k : Nat)) : JO X g ρ (some e) fun o => ∃ k : Nat, o = some (k : Int) := by
  obtain ⟨t, q1, q2⟩ := jo_some (Pi := fun i => ∃ k : Nat, i = (k : Nat)) h (by rintro _ ⟨k, _, rfl⟩; exact ⟨_, rfl, k, rfl⟩)
  exact ⟨t, q1, fun B σ M H E Q q => q2 B σ M H E Q (by rintro _ M' H' ⟨_, rfl, k, rfl⟩; exact q _ M' H' ⟨k, rfl⟩)⟩
/-- a, b, c = .. -/
theorem jg_three {i j l : Nat} {p1 p2 p3 : Pos} {k : Nat} (hc : X.calm = true) (hN : X.N.Nodup) (hi : X.N[i]? = some x) (hx : Loc X.env.scope x) (hj : X.N[j]? = some y) (hy : Loc X.env.scope y) (hl : X.N[l]? = some z) (hz : Loc X.env.scope z) (hm : i ∈ vs) (hm2 : j ∈ vs) (hm3 : l ∈ vs) (hq : d = .tup [d1, d2, d3])
    (hf : X.fn x = true ∨ X.env.scope.names.lookup x = some .local := by first | exact .inl rfl | exact .inr rfl | assumption) (hf2 : X.fn y = true ∨ X.env.scope.names.lookup y = some .local := by first | exact .inl rfl | exact .inr rfl | assumption) (hf3 : X.fn z = true ∨ X.env.scope.names.lookup z = some .local := by first | exact .inl rfl | exact .inr rfl | assumption)
    (hn : (assignEach [.Name x p1, .Name y p2, .Name z p3] X.env).length = 3 := by rfl) (hst : (assignEach [.Name x p1, .Name y p2, .Name z p3] X.env).findIdx? (·.1) = none := by rfl)
    (hs : (assignEach [.Name x p1, .Name y p2, .Name z p3] X.env).map (·.2) = assign (.Name x p1) X.env :: (assignEach [.Name y p2, .Name z p3] X.env).map (·.2) := by rfl) (hs2 : (assignEach [.Name y p2, .Name z p3] X.env).map (·.2) = assign (.Name y p2) X.env :: (assignEach [.Name z p3] X.env).map (·.2) := by rfl) (hs3 : (assignEach [.Name z p3] X.env).map (·.2) = assign (.Name z p3) X.env :: (assignEach [] X.env).map (·.2) := by rfl) :
    JG X g ρ vs (.Tuple [.Name x p1, .Name y p2, .Name z p3] k pos) d (((ρ.set i (.ro d1)).set j (.ro d2)).set l (.ro d3)) := .mk fun B σ M H v Q E iv q => by
  subst hq
  refine w_g (pg_tup hc (pgs_cons (pg_name hN hi hx hf) (pgs_cons (pg_name hN hj hy hf2) (pgs_cons (pg_name hN hl hz hf3) pgs_nil hs3) hs2) hs) hn hst) ?_
  cases iv with
  | tup e l =>
    cases l with
    | cons h1 t =>
      cases t with
      | cons h2 t =>
        cases t with
        | cons h3 t =>
          cases t
          exact ⟨_, _, rfl, SqT.of (E.at_.sub _ _ e), rfl, _, _, rfl, _, _, rfl, _, _, rfl, rfl, q _ ((wipe_set _ _ _ hm3).trans ((wipe_set _ j _ hm2).trans (wipe_set σ i _ hm))) (((E.ro i h1).ro j h2).ro _ h3)⟩
end
section
variable {P : Program} {w : World} {K : PySem.W.Frag} {mg : Str → Option Value} {base : Heap} (T : Mo K mg)
abbrev s_l_names : Stmt := top 146
theorem sc_l_names : FnScope ["_law_bag", "_law_many", "_law_abc", "_law_stem", "_law_letters", "_law_found", "_law_road", "_law_first", "_law_stride", "_law_at", "_law_word", "_law_k", "_law_letter"] ["_law_bag", "_law_many"] (defScope s_l_names) := ⟨rfl, rfl, rfl, by decide +kernel, rfl, by decide +kernel, by decide +kernel⟩
abbrev P_l_names : Sp := Dro (ι := {n : Nat // n ≤ 8}) (fun i => [.int (i.1 : Nat)]) fun i d => ∃ ss : List Str, Nms ss ∧ ss.length = i.1 ∧ d = sL ss
/-- items of a list of numbers -/
theorem mem_ints {ns : List Nat} {d : D} (h : d ∈ ns.map fun n => D.int (n : Nat)) : ∃ n ∈ ns, d = .int (n : Nat) := by
  obtain ⟨n, hn, rfl⟩ := List.mem_map.mp h
  exact ⟨n, hn, rfl⟩
theorem nodup_by {α β : Type} {f : α → β} {l : List α} (h : (l.map f).Nodup) : l.Nodup := (List.pairwise_map.mp h).imp fun hab e => hab (by rw [e])
theorem last_app (l : List Nat) (c : Nat) : (l ++ [c]).getLast?.getD 0 = c := by simp
include T in
theorem F_l_names (dn : Dn K mg "_law_names" s_l_names) (F1 : Fd P w K mg base "_law_pull" 1 P_l_pull) (F2 : Fd P w K mg base "_law_any" 2 SpAny) (F3 : Fd P w K mg base "_law_any" 2 P_l_anyS) : Fd P w K mg base "_law_names" 3 P_l_names := by
  refine dn.fd (fun f fd G => fn_dro (k := 2) G sc_l_names (fun i => rfl) ?_) fun f fd G => G.binds fun _ _ _ _ _ _ us hl => match us, hl with | [_, _], _ => rfl
  rintro ⟨n, hn8⟩ b ns f cdv A outer s H E hr
  replace hn8 : n ≤ 8 := hn8
  have nd := sc_l_names.nd
  have hr1 := hr.mono (show 1 ≤ 2 by decide)
  have habc : abc.length ≤ sizeLine := by rw [sizeLine_eq]; decide
  refine ss_setD (d := .str abc) 2 nd j_str ?_
  refine ss_asg [6, 7, 8] (P := fun d => ∃ rd f s : Nat, s ∈ strides ∧ d = .tup [.int (rd : Nat), .int (f : Nat), .int (s : Nat)]) (jp_tup (ja_cons (P := fun d => ∃ k : Nat, k < 4 ∧ d = .int (k : Nat)) (jd_fb F1 ⟨4, by decide, by decide⟩ hr1 (jac (jv 0) (jac j_int jan))) (ja_cons (P := fun d => ∃ k : Nat, k < 26 ∧ d = .int (k : Nat)) (jd_fb F1 ⟨26, by decide, by decide⟩ hr1 (jac (jv 0) (jac j_int jan))) (ja_cons (P := fun d => d ∈ strides.map fun n => D.int (n : Nat)) (j_any F2 hr (jv 0) (jd_lst (ds := strides.map fun n => D.int (n : Nat)) (jac j_int (jac j_int (jac j_int (jac j_int (jac j_int (jac j_int (jac j_int (jac j_int jan))))))))) (by
    rintro _ rfl
    exact ⟨_, rfl, by decide, by decide, fun x hx => hx⟩)) ja_nil))) (by
    rintro _ ⟨_, _, rfl, ⟨rd, _, rfl⟩, _, _, rfl, ⟨f, _, rfl⟩, _, _, rfl, h3, rfl⟩
    obtain ⟨st, hst, rfl⟩ := mem_ints h3
    exact ⟨by show 3 ≤ sizeLine; decide, rd, f, st, hst, rfl⟩)) ?_
  rintro _ ⟨rd, fi, st, hst, rfl⟩
  refine ⟨_, jg_three (i := 6) (j := 7) (l := 8) rfl nd rfl (by first | exact Or.inl rfl | exact Or.inr rfl) rfl (by first | exact Or.inl rfl | exact Or.inr rfl) rfl (by first | exact Or.inl rfl | exact Or.inr rfl) (by decide) (by decide) (by decide) rfl, ?_⟩
  -- the stem
  refine ss_set (P := fun d => ∃ z : Str, (TL.tl z).length = 5 ∧ (∀ c ∈ TL.tl z, c ∈ abc.cps.toList) ∧ d = .str z) 3 nd (jp_join (P1 := fun d => ∃ ss : List Str, ss.length = 5 ∧ (∀ s ∈ ss, ∃ c ∈ abc.cps.toList, s = l1 c) ∧ d = .lst (ss.map D.str)) j_str (j_lc (own := [("_law_k", 11)]) (Pi := fun z => z = rng 5) rfl nd (blkOk_by (by kernel_rfl)) (ji_range T (i := 5) j_int (by decide) (by decide)) (fun its i acc => ∃ ss : List Str, ss.length = i ∧ (∀ s ∈ ss, ∃ c ∈ abc.cps.toList, s = l1 c) ∧ acc = ss.map D.str) (fun its _ => ⟨[], rfl, (fun _ h => nomatch h), rfl⟩) (by
    rintro _ i d acc rfl hd ⟨ss, h1, h2, rfl⟩ _
    refine ⟨_, fun z => z = true, fun d => ∃ c ∈ abc.cps.toList, d = .str ⟨#[c]⟩, fun _ _ _ _ _ => jg_name (i := 11) nd rfl (by first | exact Or.inl rfl | exact Or.inr rfl) (by decide), fun _ _ _ _ _ => jf_nil, fun _ => ⟨fun _ _ _ _ _ => jd_fb F3 ⟨abc, by decide, by decide⟩ hr (jac (jv 0) (jac (jv 2) jan)), ?_⟩, fun h => by cases h⟩
    rintro _ ⟨c, hc, rfl⟩
    refine ⟨ss ++ [l1 c], by rw [List.length_append, h1]; rfl, fun s hs => ?_, by rw [List.map_append]; rfl⟩
    rcases List.mem_append.mp hs with hs | hs
    · exact h2 s hs
    · rw [List.mem_singleton] at hs
      exact ⟨c, hc, hs⟩) (by
    rintro _ acc rfl ⟨ss, h1, h2, rfl⟩ _
    exact ⟨ss, h1, h2, rfl⟩)) (by
    rintro _ ⟨ss, h1, h2, rfl⟩
    have hf : ∀ zs : List Str, (∀ s ∈ zs, ∃ c ∈ abc.cps.toList, s = l1 c) → (zs.map (·.length)).sum = zs.length ∧ (zs.map TL.tl).flatten.length = zs.length ∧ ∀ c ∈ (zs.map TL.tl).flatten, c ∈ abc.cps.toList := by
      intro zs
      induction zs with
      | nil => intro _; exact ⟨rfl, rfl, fun _ h => nomatch h⟩
      | cons a t ih =>
        intro h
        obtain ⟨i1, i2, i3⟩ := ih fun s hs => h s (List.mem_cons_of_mem _ hs)
        obtain ⟨c, hc, rfl⟩ := h a List.mem_cons_self
        refine ⟨?_, ?_, ?_⟩
        · rw [List.map_cons, List.sum_cons, i1, List.length_cons]
          show 1 + t.length = t.length + 1
          omega
        · rw [List.map_cons, List.flatten_cons, List.length_append, i2, List.length_cons]
          show 1 + t.length = t.length + 1
          omega
        · intro c2 h2
          rw [List.map_cons, List.flatten_cons, List.mem_append] at h2
          rcases h2 with h2 | h2
          · rw [tl_l1, List.mem_singleton] at h2
            exact h2 ▸ hc
          · exact i3 c2 h2
    obtain ⟨f1, f2, f3⟩ := hf ss h2
    refine ⟨ss, .inl rfl, ?_, Txt.join "" ss, ?_, ?_, rfl⟩
    · rw [f1, h1]
      decide
    · rw [tl_join0, f2, h1]
    · rw [tl_join0]
      exact f3)) ?_
  rintro _ ⟨z, hz5, hza, rfl⟩
  have hzl : z.length ≤ sizeLine := by rw [TL.len_tl, hz5, sizeLine_eq]; decide
  -- the letters
  obtain ⟨cs, hcs⟩ : ∃ cs, cs = (List.range n).map (chr fi st) := ⟨_, rfl⟩
  have hcsN : cs.Nodup := by rw [hcs]; exact chr_nodup fi st n hst (by omega)
  have hcsL : cs.length = n := by rw [hcs, List.length_map, List.length_range]
  have hcsA : ∀ c ∈ cs, c ∈ abc.cps.toList := fun c hc => by
    rw [hcs] at hc
    obtain ⟨k, _, rfl⟩ := List.mem_map.mp hc
    exact chr_abc fi st k
  refine ss_setLc 4 (own := [("_law_k", 11)]) (Pi := fun z => z = rng n) rfl nd (blkOk_by (by kernel_rfl)) (ji_range T (i := (n : Int)) (jv 1) (by omega) (by omega)) (fun its i acc => acc = ((List.range i).map (chr fi st)).map fun c => D.str (l1 c)) (fun _ _ => rfl) ?_ ?_
  · rintro _ i d acc rfl hd rfl _
    have hi : i < n := by
      have := (List.getElem?_eq_some_iff.mp hd).1
      simpa [rng] using this
    obtain rfl : d = .int (i : Nat) := by
      unfold rng at hd
      rw [List.getElem?_map, List.getElem?_range hi] at hd
      cases hd
      rfl
    refine ⟨_, fun z => z = true, fun d => d = .str ⟨#[chr fi st i]⟩, fun _ _ _ _ _ => jg_name (i := 11) nd rfl (by first | exact Or.inl rfl | exact Or.inr rfl) (by decide), fun _ _ _ _ _ => jf_nil, fun _ => ⟨fun _ _ _ _ _ => jd_ixS (s := abc) (jv 2) (jd_mod (jd_int1 T (jd_add (jv 7) (jd_mul (jv 8) (jv 11) (.inr ⟨by omega, by omega⟩)))) j_int (by decide)) habc (chr_at fi st i), ?_⟩, fun h => by cases h⟩
    rintro _ rfl
    rw [List.range_succ, List.map_append, List.map_append]
    rfl
  rintro _ acc rfl hacc _
  have hrl : (rng n).length = n := by simp [rng]
  rw [hrl, ← hcs] at hacc
  subst hacc
  refine ss_frz 4 rfl ?_
  have hji : (cs.map fun c => D.str (l1 c)).length ≤ 1000000 := by rw [List.length_map, hcsL]; omega
  -- all alike but for one letter
  refine ss_ifD0 (jt_eqI (jv 6) j_int) (fun _ => ?_) fun _ => ?_
  · refine ss_set (P := fun d => ∃ k : Nat, k < 6 ∧ d = .int (k : Nat)) 9 nd (jd_fb F1 ⟨6, by decide, by decide⟩ hr1 (jac (jv 0) (jac j_int jan))) ?_
    rintro _ ⟨k, hk, rfl⟩
    have ht1 := tl_cutTo z k
    have ht2 := tl_cutFrom z k
    have l1' : (cutS z none (some (k : Int))).length ≤ 5 := by rw [TL.len_tl, ht1, List.length_take]; omega
    have l2' : (cutS z (some (k : Int)) none).length ≤ 5 := by rw [TL.len_tl, ht2, List.length_drop]; omega
    refine ss_ret (P := fun d => d = .lst (cs.map fun c => D.str (cutS z none (some (k : Int)) ++ l1 c ++ cutS z (some (k : Int)) none))) (jd_lcm (own := [("_law_letter", 12)]) cs (fun c => D.str (l1 c)) _ rfl nd (blkOk_by (by kernel_rfl)) (ji (ds := cs.map fun c => D.str (l1 c)) (jv 4) hji (.inl rfl)) fun c _ => ⟨_, fun _ _ _ _ _ => jg_name (i := 12) nd rfl (by first | exact Or.inl rfl | exact Or.inr rfl) (by decide), fun _ _ _ _ _ => jd_addS (jd_addS (jd_slS (s := z) (jv 3) jon (jos (jv 9)) hzl) (jv 12) (by rw [sizeLine_eq]; show _ + 1 ≤ _; omega)) (jd_slS (s := z) (jv 3) (jos (jv 9)) jon hzl) (by
      rw [sizeLine_eq, TL.len_tl (_ ++ _), TL.tl_append, List.length_append, ← TL.len_tl, ← TL.len_tl]
      show _ + 1 + _ ≤ _
      omega)⟩) ?_
    rintro _ rfl
    refine ⟨cs.map fun c => cutS z none (some (k : Int)) ++ l1 c ++ cutS z (some (k : Int)) none, ⟨fun s hs => ?_, ?_⟩, by rw [List.length_map, hcsL], by unfold sL; rw [List.map_map]; rfl⟩
    · obtain ⟨c, hc, rfl⟩ := List.mem_map.mp hs
      have e : TL.tl (cutS z none (some (k : Int)) ++ l1 c ++ cutS z (some (k : Int)) none) = (TL.tl z).take k ++ [c] ++ (TL.tl z).drop k := by rw [TL.tl_append, TL.tl_append, ht1, ht2]; rfl
      have hlen : ((TL.tl z).take k ++ [c] ++ (TL.tl z).drop k).length = 6 := by
        rw [List.length_append, List.length_append, List.length_take, List.length_drop, hz5]
        show min k 5 + 1 + (5 - k) = 6
        omega
      refine nm_of (by rw [e, hlen]; decide) (by rw [e, hlen]; decide) fun c2 h2 => ?_
      rw [e, List.mem_append, List.mem_append] at h2
      rcases h2 with (h2 | h2) | h2
      · exact hza _ (List.mem_of_mem_take h2)
      · rw [List.mem_singleton] at h2
        exact h2 ▸ hcsA c hc
      · exact hza _ (List.mem_of_mem_drop h2)
    · refine List.pairwise_map.mpr (hcsN.imp fun hab e => hab ?_)
      have e2 := congrArg TL.tl e
      rw [TL.tl_append, TL.tl_append, TL.tl_append, TL.tl_append, List.append_left_inj, List.append_right_inj] at e2
      cases e2
      rfl
  -- of unlike lengths
  refine ss_setLc 5 (own := [("_law_letter", 12)]) (Pi := fun z => z = cs.map fun c => D.str (l1 c)) rfl nd (blkOk_by (by kernel_rfl)) (ji (ds := cs.map fun c => D.str (l1 c)) (jv 4) hji (.inl rfl)) (fun its i acc => ∃ ss : List Str, (∀ s ∈ ss, nm s = true) ∧ ss.map lastC = cs.take i ∧ acc = ss.map D.str) (fun _ _ => ⟨[], (fun _ h => nomatch h), rfl, rfl⟩) ?_ ?_
  · rintro _ i d acc rfl hd ⟨ss, h1, h2, rfl⟩ _
    obtain ⟨c, hc, rfl⟩ := map_get hd
    have hcA := hcsA c (List.mem_of_getElem? hc)
    refine ⟨_, fun z => z = true, fun d => ∃ k : Nat, d = .str (cutS z (some (k : Int)) none ++ l1 c), fun _ _ _ _ _ => jg_name (i := 12) nd rfl (by first | exact Or.inl rfl | exact Or.inr rfl) (by decide), fun _ _ _ _ _ => jf_nil, fun _ => ⟨fun _ _ _ _ _ => jp_addS (P1 := fun d => ∃ k : Nat, d = .str (cutS z (some (k : Int)) none)) (P2 := fun d => d = .str (l1 c)) (jp_slS (P1 := fun d => d = .str z) (Pl := fun o => ∃ k : Nat, o = some (k : Int)) (Ph := fun o => o = none) (jv 3) (jo_nat (m := 6) (jd_fb F1 ⟨6, by decide, by decide⟩ hr1 (jac (jv 0) (jac j_int jan)))) jon ?_) (jv 12) ?_, ?_⟩, fun h => by cases h⟩
    · rintro _ _ _ rfl ⟨k, rfl⟩ rfl
      exact ⟨z, rfl, hzl, k, rfl⟩
    · rintro _ _ ⟨k, rfl⟩ rfl
      refine ⟨_, _, rfl, rfl, ?_, k, rfl⟩
      rw [TL.len_tl, tl_cutFrom, List.length_drop, hz5, sizeLine_eq]
      show 5 - k + 1 ≤ _
      omega
    · rintro _ ⟨k, rfl⟩
      have e : TL.tl (cutS z (some (k : Int)) none ++ l1 c) = (TL.tl z).drop k ++ [c] := by rw [TL.tl_append, tl_cutFrom]; rfl
      have et : cs.take (i + 1) = cs.take i ++ [c] := by
        obtain ⟨h1, h2⟩ := List.getElem?_eq_some_iff.mp hc
        rw [← h2]; exact List.take_succ_eq_append_getElem h1
      refine ⟨ss ++ [cutS z (some (k : Int)) none ++ l1 c], fun s hs => ?_, ?_, by rw [List.map_append]; rfl⟩
      · rcases List.mem_append.mp hs with hs | hs
        · exact h1 s hs
        · rw [List.mem_singleton] at hs
          subst hs
          have hlen : ((TL.tl z).drop k ++ [c]).length = 5 - k + 1 := by rw [List.length_append, List.length_drop, hz5]; rfl
          refine nm_of (by rw [e, hlen]; omega) (by rw [e, hlen]; omega) fun c2 h2 => ?_
          rw [e, List.mem_append] at h2
          rcases h2 with h2 | h2
          · exact hza _ (List.mem_of_mem_drop h2)
          · rw [List.mem_singleton] at h2
            exact h2 ▸ hcA
      · rw [List.map_append, h2, et]
        congr 1
        show [lastC _] = [c]
        unfold lastC
        rw [e, last_app]
  rintro _ acc rfl ⟨ss, h1, h2, rfl⟩ _
  rw [List.length_map, List.take_length] at h2
  have hss : Nms ss := ⟨h1, nodup_by (f := lastC) (by rw [h2]; exact hcsN)⟩
  have hsl : ss.length = n := by rw [← hcsL, ← h2, List.length_map]
  have tail : ∀ (zs : List Str) (t1 t2 t3 t4 t5 t6 : Slot), Nms zs → zs.length = n → SS (Xc P w K mg base ["_law_bag", "_law_many", "_law_abc", "_law_stem", "_law_letters", "_law_found", "_law_road", "_law_first", "_law_stride", "_law_at", "_law_word", "_law_k", "_law_letter"] "_law_names" s_l_names f cdv A outer s H E) (some (b, ns)) (poOf fun d => ∃ ss : List Str, Nms ss ∧ ss.length = n ∧ d = sL ss) [.ro (.adr b), .ro (.int (n : Nat)), .ro (.str abc), .ro (.str z), t1, .own (zs.map D.str), t2, .ro (.int (fi : Nat)), .ro (.int (st : Nat)), t3, t4, t5, t6] ((defBody s_l_names).drop 7) := fun zs t1 t2 t3 t4 t5 t6 hz hl => by
    refine ss_frz 5 rfl ?_
    exact ss_ret (P := fun d => d = sL zs) (jv 5) fun d h => ⟨zs, hz, hl, h⟩
  refine ss_ifD0 (JW.t (jw_and (jt_eqI (jv 6) j_int) fun _ => jw_and1 (jt_gt (jv 1) j_int))) (fun hq => ?_) fun _ => tail ss _ _ _ _ _ _ hss hsl
  have hn0 : 0 < n := by
    rw [Bool.and_eq_true, decide_eq_true_eq, decide_eq_true_eq] at hq
    have hq2 : (0 : Int) < (n : Nat) := hq.2
    omega
  refine ss_set (P := fun d => ∃ wd ∈ nameWords, d = .str wd) 10 nd (j_any F2 hr (jv 0) (jd_lst (ds := nameWords.map D.str) (jac j_str (jac j_str (jac j_str (jac j_str (jac j_str (jac j_str (jac j_str (jac j_str (jac j_str (jac j_str jan))))))))))) (by
    rintro _ rfl
    exact ⟨_, rfl, by decide, by decide, fun x hx => by
      obtain ⟨wd, hw, rfl⟩ := List.mem_map.mp hx
      exact ⟨wd, hw, rfl⟩⟩)) ?_
  rintro _ ⟨wd, hw, rfl⟩
  refine ss_ifD0 (jt_own 5 (jt_ninS (ss := ss) (jv 10) (jv 5) (.inl rfl))) (fun hni => ?_) fun _ => ss_nil (tail ss _ _ _ _ _ _ hss hsl)
  have hni2 : wd ∉ ss := by simpa using hni
  refine ss_setitem (P1 := fun d => d = .str wd) (P2 := fun d => ∃ k : Nat, k < n ∧ d = .int (k : Nat)) 5 (jv 10) (jd_fb F1 ⟨n, hn0, by omega⟩ hr1 (jac (jv 0) (jac (jv 1) jan))) rfl ?_
  rintro _ _ rfl ⟨k, hk, rfl⟩
  refine ⟨k, rfl, by rw [List.length_map, hsl]; exact hk, ss_nil ?_⟩
  rw [← List.map_set]
  refine ss_nil (tail (ss.set k wd) _ _ _ _ _ _ ⟨fun s hs => ?_, nodup_set k hss.nd hni2⟩ (by rw [List.length_set, hsl]))
  rcases List.mem_or_eq_of_mem_set hs with h | h
  · exact hss.ok s h
  · exact h ▸ nameWords_nm wd hw
end
end FD
end
section
set_option maxHeartbeats 2000000
/-! drawn rows and records -/
namespace FD
open PySem PySem.Spec PyProof.Rows L2
/-! ### more rules -/
/-- things that compare with [] -/
def Pz (ds : List D) : Prop := ∃ ps, toPys ds = some ps ∧ PyData.canLayAll0 ps = true ∧ PyData.depthAll ps ≤ 20
theorem Pz.nil : Pz [] := ⟨[], rfl, rfl, Nat.zero_le _⟩
theorem Pz.cons {d : D} {ds : List D} {p : PyData} (h : toPy d = some p) (h1 : p.canLay0 = true) (h2 : p.depth ≤ 20) (t : Pz ds) : Pz (d :: ds) := by
  obtain ⟨ps, e1, e2, e3⟩ := t
  refine ⟨p :: ps, ?_, ?_, ?_⟩
  · simp [toPys, h, e1]
  · simp [PyData.canLayAll0, h1, e2]
  · simp only [PyData.depthAll]
    omega
theorem Pz.strs {ss : List Str} (h : SOk ss) : Pz (ss.map D.str) := ⟨_, toPys_strs ss, canLay_strs h, by rw [depth_strs]; omega⟩
theorem Pz.rows {rows : List Rw} (h : ∀ r ∈ rows, SOk r.1 ∧ SOk r.2) : Pz (rows.map prD) := by
  obtain ⟨i1, i2, i3⟩ := toPys_rows h
  exact ⟨_, i1, i2, by omega⟩
theorem Pz.recs : ∀ {rs : List Rc}, (∀ r ∈ rs, PyData.strOk r.1 = true ∧ SOk r.2.1 ∧ SOk r.2.2) → Pz (rs.map rcD)
  | [], _ => .nil
  | r :: rs, h => by
    obtain ⟨h1, h2, h3⟩ := h r List.mem_cons_self
    obtain ⟨e1, e2, e3⟩ := py_row h2 h3
    refine Pz.cons (p := .tuple [.str r.1, pyR r.2]) ?_ ?_ ?_ (Pz.recs fun x hx => h x (List.mem_cons_of_mem _ hx))
    · show toPy (.tup [.str r.1, prD r.2]) = _
      simp [toPy, toPys, e1]
    · simp [PyData.canLay0, PyData.canLayAll0, e2, h1]
    · simp only [PyData.depth, PyData.depthAll, e3]
      omega
theorem Pz.ords : ∀ {L : List (List Str)}, (∀ o ∈ L, SOk o) → Pz (L.map sT)
  | [], _ => .nil
  | o :: L, h => by
    refine Pz.cons (p := .tuple (o.map PyData.str)) toPy_strsT ?_ ?_ (Pz.ords fun x hx => h x (List.mem_cons_of_mem _ hx))
    · simp [PyData.canLay0, canLay_strs (h o List.mem_cons_self)]
    · simp only [PyData.depth, depth_strs]
      omega
section
variable {X : Cx} {g : Bg} {ρ : List Slot} {e a b c : Expr} {rest : List Expr} {P P1 P2 : D → Prop} {pos kk p2 : Pos} {ds : List D} {x : Str} {u : Bool} {Pb : Bool → Prop} {j : Int} {m : Nat} {po : Po} {sts : List Stmt} {scope : Scope} {own : List (Str × Nat)} {tg iter elt : Expr} {ifs : List Expr} {tpos pos' : Pos}
theorem eqv_nil (ps : List PyData) : PyData.eqv (.list ps) (.list []) = ps.isEmpty := by cases ps <;> rfl
theorem toPys_len : ∀ {ds : List D} {ps : List PyData}, toPys ds = some ps → ps.isEmpty = ds.isEmpty
  | [], _, h => by cases h; rfl
  | d :: ds, ps, h => by
    simp only [toPys] at h
    cases q : toPy d with
    | none => rw [q] at h; cases h
    | some p =>
      rw [q] at h
      cases r : toPys ds with
      | none => rw [r] at h; cases h
      | some qs => rw [r] at h; cases h; rfl
theorem Pz.sh {ds : List D} (h : Pz ds) : ∃ ps, toPy (.lst ds) = some (.list ps) ∧ SeqAt.shaped (.list ps) = true ∧ PyData.eqv (.list ps) (.list []) = ds.isEmpty := by
  obtain ⟨ps, e1, e2, e3⟩ := h
  refine ⟨ps, by simp [toPy, e1], ?_, by rw [eqv_nil, toPys_len e1]⟩
  show (PyData.canLayAll0 ps && decide (PyData.depthAll ps + 1 ≤ 64)) = true
  rw [e2, decide_eq_true (by omega)]
  rfl
theorem jt_eqNil (hu : X.A.units + 64 < cLine) (ha : JD X g ρ a (.lst ds)) (h : Pz ds) : JTD X g ρ (.Compare a [.Eq] [.List [] kk] pos) ds.isEmpty := by
  obtain ⟨ps, i1, i2, i3⟩ := h.sh
  exact i3 ▸ jt_eqD hu ha (jd_lst (pos := kk) jan) i1 rfl i2 rfl
theorem jt_neNil (hu : X.A.units + 64 < cLine) (ha : JD X g ρ a (.lst ds)) (h : Pz ds) : JTD X g ρ (.Compare a [.NotEq] [.List [] kk] pos) (!ds.isEmpty) := by
  obtain ⟨ps, i1, i2, i3⟩ := h.sh
  exact i3 ▸ jt_neD hu ha (jd_lst (pos := kk) jan) i1 rfl i2 rfl
/-- a drawn number is compared: any outcome -/
theorem jt_eqK (ha : J X g ρ a fun d => ∃ k : Nat, k < m ∧ d = .int (k : Nat)) (hb : JD X g ρ b (.int j)) : JT X g ρ (.Compare a [.Eq] [b] pos) (fun _ => True) := jt_cmp op_eq ha hb (by
  rintro _ _ v1 v2 M H ⟨k, hk, rfl⟩ rfl A i1 i2 Q q
  cases i1
  cases i2
  exact ⟨rfl, q.here A ⟨_, rfl, trivial⟩ (.bl _)⟩)
theorem jwp_and1 (h : JT X g ρ a Pb) : JW X g ρ (.BoolOp .And [a] pos) Pb := .mk fun B σ M H E Q q => w_w (pw_and1 pt_W) (h.at_ E fun b M1 H1 p E1 s => q b M1 H1 p s)
theorem jwp_or1 (h : JT X g ρ a Pb) : JW X g ρ (.BoolOp .Or [a] pos) Pb := .mk fun B σ M H E Q q => w_w (pw_or1 pt_W) (h.at_ E fun b M1 H1 p E1 s => q b M1 H1 p s)
theorem jwp_and (h : JTD X g ρ a u) (k : u = true → JW X g ρ (.BoolOp .And (b :: rest) pos) Pb) (k2 : u = false → Pb false) : JW X g ρ (.BoolOp .And (a :: b :: rest) pos) Pb := .mk fun B σ M H E Q q => w_w (pw_and pt_W pw_W) (h.at_ E fun z M1 H1 p E1 s => by
  subst p
  by_cases hz : z = true
  · rw [if_pos hz]
    exact (k hz).at_ E1 fun y M2 H2 p2 E2 s2 => q _ M2 H2 p2 (s.trans s2)
  · rw [if_neg hz]
    exact q _ M1 H1 (k2 (ff_of hz)) s)
theorem jwp_or (h : JTD X g ρ a u) (k : u = false → JW X g ρ (.BoolOp .Or (b :: rest) pos) Pb) (k2 : u = true → Pb true) : JW X g ρ (.BoolOp .Or (a :: b :: rest) pos) Pb := .mk fun B σ M H E Q q => w_w (pw_or pt_W pw_W) (h.at_ E fun z M1 H1 p E1 s => by
  subst p
  by_cases hz : z = true
  · rw [if_pos hz]
    exact q _ M1 H1 (k2 hz) s
  · rw [if_neg hz]
    exact (k (ff_of hz)).at_ E1 fun y M2 H2 p2 E2 s2 => q _ M2 H2 p2 (s.trans s2))
/-- x = [..], typed, the name a local one -/
theorem ss_setLcD {α : Type} (i : Nat) {x : Str} {px : Pos} (xs : List α) (q : α → D) (b : α → Bool) (f : α → D) (hc : X.calm = true) (hN : X.N.Nodup) (ok : BlkOk X.N X.env.scope scope own) (hi : JID X g ρ tg iter (xs.map q))
    (turn : ∀ x ∈ xs, LtD X g ρ (own.map (·.2)) scope tg ifs elt (q x) (b x) (f x)) (k : SS X g po (ρ.set i (.own ((xs.filter b).map f))) sts) (hx : X.N[i]? = some x := by rfl) (hxl : X.env.scope.names.lookup x = some .local := by rfl) (hs : ∀ x, foldedSetIterable iter X.env x = pure x := by intro _; rfl)
    (hsw : swapsWith (.ListComp elt [⟨tg, iter, ifs, 0⟩] scope pos') (some (.Name x px)) pos.line X.env = pure true := by exact sw_true rfl rfl rfl (by kernel_rfl)) : SS X g po ρ (.Assign [.Name x px] (.ListComp elt [⟨tg, iter, ifs, 0⟩] scope pos') pos :: sts) :=
  ss_setLc i hc hN ok hi (fun its i acc => acc = ((xs.take i).filter b).map f) (fun _ _ => rfl) (by
    rintro _ i d acc rfl hd rfl hl
    rw [List.getElem?_map] at hd
    cases hx : xs[i]? with
    | none => rw [hx] at hd; cases hd
    | some x =>
      rw [hx] at hd
      cases hd
      obtain ⟨ρ', h1, h2, h3⟩ := (turn x (List.mem_of_getElem? hx)).ex
      refine ⟨ρ', _, fun z => z = f x, h1, h2, fun e => ⟨h3 e.symm, ?_⟩, fun e => ?_⟩
      · rintro _ rfl
        rw [filter_take xs b f i x hx, if_pos e.symm]
      · rw [filter_take xs b f i x hx, if_neg (by rw [← e]; decide), List.append_nil]) (by
    rintro _ acc rfl rfl _
    rw [List.length_map, List.take_length]
    exact k) hx hxl hs hsw
end
/-! ### rows -/
/-- a drawn row -/
structure Rq (ns : List Str) (r : Rw) : Prop where
  ok : RwOk r
  cov : Cov ns r
  so : rowS r = r
  l1 : r.1.length ≤ 5
  l2 : r.2.length ≤ 5
theorem Rq.nil (ns : List Str) : Rq ns ([], []) := ⟨⟨⟨(fun _ h => nomatch h), .nil⟩, ⟨(fun _ h => nomatch h), .nil⟩, (fun _ h => nomatch h), by decide, by decide⟩, (fun s h => by rcases h with h | h <;> cases h), by simp [rowS, srt], by decide, by decide⟩
theorem Rq.turn {ns : List Str} {r : Rw} (h : Rq ns r) : Rq ns (r.2, r.1) := ⟨⟨h.ok.c, h.ok.p, fun s h1 h2 => h.ok.ap s h2 h1, h.ok.f2, h.ok.f1⟩, fun s hs => h.cov s hs.symm, by
  have := h.so
  unfold rowS at this ⊢
  rw [Prod.ext_iff] at this
  exact Prod.ext this.2 this.1, h.l2, h.l1⟩
/-- two parts of the names, apart -/
theorem Rq.of {ns a b : List Str} (hn : Nms ns) (h5 : ns.length ≤ 5) (ha : a.Sublist ns) (hb : b.Sublist ns) (hab : ∀ s ∈ a, s ∉ b) : Rq ns (srt a, srt b) := by
  have la := ha.length_le
  have lb := hb.length_le
  have na : Nms a := ⟨fun s hs => hn.ok s (ha.subset hs), ha.nodup hn.nd⟩
  have nb : Nms b := ⟨fun s hs => hn.ok s (hb.subset hs), hb.nodup hn.nd⟩
  refine ⟨⟨srt_nms na, srt_nms nb, fun s h1 h2 => hab s (srt_mem.mp h1) (srt_mem.mp h2), by show (srt a).length ≤ 8; rw [srt_len]; omega, by show (srt b).length ≤ 8; rw [srt_len]; omega⟩, fun s hs => ?_, ?_, by show (srt a).length ≤ 5; rw [srt_len]; omega, by show (srt b).length ≤ 5; rw [srt_len]; omega⟩
  · rcases hs with hs | hs
    · exact ha.subset (srt_mem.mp hs)
    · exact hb.subset (srt_mem.mp hs)
  · show (srt (srt a), srt (srt b)) = _
    rw [srt_srt, srt_srt]
theorem key_eq {α β : Type} : ∀ {ps : List (α × β)} {p q : α × β}, (ps.map Prod.fst).Nodup → p ∈ ps → q ∈ ps → p.1 = q.1 → p = q
  | [], _, _, _, h, _, _ => nomatch h
  | a :: t, p, q, nd, hp, hq, e => by
    rw [List.map_cons, List.nodup_cons] at nd
    rcases List.mem_cons.mp hp with e1 | h1
    · rcases List.mem_cons.mp hq with e2 | h2
      · rw [e1, e2]
      · exact absurd (by rw [← e1, e]; exact List.mem_map_of_mem h2) nd.1
    · rcases List.mem_cons.mp hq with e2 | h2
      · exact absurd (by rw [← e2, ← e]; exact List.mem_map_of_mem h1) nd.1
      · exact key_eq nd.2 h1 h2 e
theorem zipD_map (ss : List Str) (zs : List Nat) : zipD (ss.map D.str) (zs.map fun n => D.int (n : Nat)) = (ss.zip zs).map fun p => .tup [.str p.1, .int (p.2 : Nat)] := by
  unfold zipD
  rw [List.zipWith_map, List.zip, List.map_zipWith]
theorem zip_fst {α β : Type} : ∀ (xs : List α) (ys : List β), xs.length = ys.length → (xs.zip ys).map Prod.fst = xs
  | [], _, _ => rfl
  | _ :: _, [], h => by cases h
  | x :: xs, y :: ys, h => by
    rw [List.zip_cons_cons, List.map_cons, zip_fst xs ys (by simpa using h)]
section
variable {P : Program} {w : World} {K : PySem.W.Frag} {mg : Str → Option Value} {base : Heap} (T : Mo K mg)
abbrev s_l_row : Stmt := top 152
abbrev N_row : List Str := ["_law_bag", "_law_names_here", "_law_spine", "_law_road", "_law_signs_here", "_law_pro", "_law_con", "_law_x", "_law_sign"]
theorem sc_l_row : FnScope N_row ["_law_bag", "_law_names_here", "_law_spine"] (defScope s_l_row) := ⟨rfl, rfl, rfl, by decide +kernel, rfl, by decide +kernel, by decide +kernel⟩
abbrev P_l_row : Sp := Dro (ι := {p : List Str × List Str // (Nms p.1 ∧ p.1.length ≤ 5) ∧ p.2.length ≤ 1000}) (fun i => [sL i.1.1, sT i.1.2]) fun i d => ∃ r, Rq i.1.1 r ∧ d = prD r
include T in
theorem F_l_row (dn : Dn K mg "_law_row" s_l_row) (F1 : Fd P w K mg base "_law_pull" 1 P_l_pull) (F2 : Fd P w K mg base "_law_bears" 1 P_l_bears) : Fd P w K mg base "_law_row" 2 P_l_row := by
  refine dn.fd (fun f fd G => fn_dro (k := 1) G sc_l_row (fun i => rfl) ?_) fun f fd G => G.binds fun _ _ _ _ _ _ us hl => match us, hl with | [_, _, _], _ => rfl
  rintro ⟨⟨ms, sp⟩, ⟨hn, h5⟩, hz⟩ b ns f cdv A outer s H E hr
  replace hn : Nms ms := hn
  replace h5 : ms.length ≤ 5 := h5
  replace hz : sp.length ≤ 1000 := hz
  have nd := sc_l_row.nd
  refine ss_set (P := fun d => ∃ k : Nat, k < 9 ∧ d = .int (k : Nat)) 3 nd (jd_fb F1 ⟨9, by decide, by decide⟩ hr (jac (jv 0) (jac j_int jan))) ?_
  rintro _ ⟨rd, _, rfl⟩
  have hms : (ms.map D.str).length ≤ 1000000 := by rw [List.length_map]; omega
  refine ss_setLc 4 (own := [("_law_x", 7)]) (Pi := fun z => z = ms.map D.str) rfl nd (blkOk_by (by kernel_rfl)) (ji (ds := ms.map D.str) (jv 1) hms (.inl rfl)) (fun its i acc => ∃ zs : List Nat, zs.length = i ∧ acc = zs.map fun n => D.int (n : Nat)) (fun _ _ => ⟨[], rfl, rfl⟩) ?_ ?_
  · rintro _ i d acc rfl hd ⟨zs, rfl, rfl⟩ _
    refine ⟨_, fun z => z = true, fun d => ∃ k : Nat, d = .int (k : Nat), fun _ _ _ _ _ => jg_name (i := 7) nd rfl (by first | exact Or.inl rfl | exact Or.inr rfl) (by decide), fun _ _ _ _ _ => jf_nil, fun _ => ⟨fun _ _ _ _ _ => j_if (jt_eqI (jv 3) j_int) (fun _ => j_int.imp (by rintro _ rfl; exact ⟨0, rfl⟩)) (fun _ => jd_fb F1 ⟨3, by decide, by decide⟩ hr (jac (jv 0) (jac j_int jan)) (hp := by rintro _ ⟨k, _, rfl⟩; exact ⟨k, rfl⟩)), ?_⟩, fun h => by cases h⟩
    rintro _ ⟨k, rfl⟩
    exact ⟨zs ++ [k], by rw [List.length_append]; rfl, by rw [List.map_append]; rfl⟩
  rintro _ acc rfl ⟨zs, hzl, rfl⟩ _
  rw [List.length_map] at hzl
  refine ss_frz 4 rfl ?_
  have hpn : (ms.zip zs).map Prod.fst = ms := zip_fst ms zs hzl.symm
  have hzip : ∀ {X : Cx} {ρ : List Slot} {e1 e2 : Expr} {tpos pos p : Pos} {elts : List Expr} {kk : Nat} (Tx : Mo X.K X.mg) (h1 : JD X (some (b, ns)) ρ e1 (sL ms)) (h2 : JD X (some (b, ns)) ρ e2 (.lst (zs.map fun n => D.int (n : Nat)))) (hg : Gl X "zip") (hs : starEach [e1, e2] X.env = (false, eval e1 X.env) :: starEach [e2] X.env) (hs2 : starEach [e2] X.env = (false, eval e2 X.env) :: starEach [] X.env) (hpl : (backTo pos (starEach [e2] X.env)).any (·.1) = false),
      JID X (some (b, ns)) ρ (.Tuple elts kk tpos) (.Call (.Name "zip" p) [e1, e2] [] pos) ((ms.zip zs).map fun p => .tup [.str p.1, .int (p.2 : Nat)]) := fun Tx h1 h2 hg hs hs2 hpl =>
    ji_zip (Ps := fun z => z = [sL ms, .lst (zs.map fun n => D.int (n : Nat))]) Tx (jac h1 (jac h2 jan hs2) hs) (by
      rintro _ rfl
      exact ⟨ms.map D.str, _, .inl rfl, hms, zipD_map ms zs⟩) hg hs hpl
  refine ss_setLcD 5 (own := [("_law_x", 7), ("_law_sign", 8)]) (ms.zip zs) (fun p => .tup [.str p.1, .int (p.2 : Nat)]) (fun p => decide (((p.2 : Nat) : Int) = 1) && !decide (((rd : Nat) : Int) = 1)) (fun p => .str p.1) rfl nd (blkOk_by (by kernel_rfl)) (hzip T (jv 1) (jv 4) (by rfl) (by rfl) (by rfl) (by rfl))
    (fun p _ => ⟨_, fun _ _ _ _ _ => jg_two (i := 7) (j := 8) rfl nd rfl (by first | exact Or.inl rfl | exact Or.inr rfl) rfl (by first | exact Or.inl rfl | exact Or.inr rfl) (by decide) (by decide) rfl, fun _ _ _ _ _ => jf_one (JW.t (jw_and (jt_eqI (jv 8) j_int) fun _ => jw_and1 (jt_neI (jv 3) j_int))), fun _ _ _ _ _ _ => jv 7⟩) ?_
  refine ss_setLcD 6 (own := [("_law_x", 7), ("_law_sign", 8)]) (ms.zip zs) (fun p => .tup [.str p.1, .int (p.2 : Nat)]) (fun p => decide (((p.2 : Nat) : Int) = 2)) (fun p => .str p.1) rfl nd (blkOk_by (by kernel_rfl)) (hzip T (jv 1) (jv 4) (by rfl) (by rfl) (by rfl) (by rfl))
    (fun p _ => ⟨_, fun _ _ _ _ _ => jg_two (i := 7) (j := 8) rfl nd rfl (by first | exact Or.inl rfl | exact Or.inr rfl) rfl (by first | exact Or.inl rfl | exact Or.inr rfl) (by decide) (by decide) rfl, fun _ _ _ _ _ => jf_one (jt_eqI (jv 8) j_int), fun _ _ _ _ _ _ => jv 7⟩) ?_
  obtain ⟨pr, hpr⟩ : ∃ pr, pr = ((ms.zip zs).filter fun p => decide (((p.2 : Nat) : Int) = 1) && !decide (((rd : Nat) : Int) = 1)).map Prod.fst := ⟨_, rfl⟩
  obtain ⟨cn, hcn⟩ : ∃ cn, cn = ((ms.zip zs).filter fun p => decide (((p.2 : Nat) : Int) = 2)).map Prod.fst := ⟨_, rfl⟩
  have e1 : (((ms.zip zs).filter fun p => decide (((p.2 : Nat) : Int) = 1) && !decide (((rd : Nat) : Int) = 1)).map fun p => D.str p.1) = pr.map D.str := by rw [hpr, List.map_map]; rfl
  have e2 : (((ms.zip zs).filter fun p => decide (((p.2 : Nat) : Int) = 2)).map fun p => D.str p.1) = cn.map D.str := by rw [hcn, List.map_map]; rfl
  rw [e1, e2]
  have sp1 : pr.Sublist ms := by
    have := (List.filter_sublist (p := fun p : Str × Nat => decide (((p.2 : Nat) : Int) = 1) && !decide (((rd : Nat) : Int) = 1)) (l := ms.zip zs)).map Prod.fst
    rw [hpn] at this
    rw [hpr]
    exact this
  have sp2 : cn.Sublist ms := by
    have := (List.filter_sublist (p := fun p : Str × Nat => decide (((p.2 : Nat) : Int) = 2)) (l := ms.zip zs)).map Prod.fst
    rw [hpn] at this
    rw [hcn]
    exact this
  have hap : ∀ s ∈ pr, s ∉ cn := fun s h1 h2 => by
    rw [hpr] at h1
    rw [hcn] at h2
    obtain ⟨p, hp, rfl⟩ := List.mem_map.mp h1
    obtain ⟨q, hq, e⟩ := List.mem_map.mp h2
    obtain ⟨hp1, hp2⟩ := List.mem_filter.mp hp
    obtain ⟨hq1, hq2⟩ := List.mem_filter.mp hq
    have := key_eq (by rw [hpn]; exact hn.nd) hp1 hq1 e.symm
    subst this
    rw [Bool.and_eq_true, decide_eq_true_eq] at hp2
    have h3 := hp2.1
    rw [decide_eq_true_eq] at hq2
    omega
  refine ss_frz 5 rfl ?_
  refine ss_frz 6 rfl ?_
  have tail : ∀ (p c : List Str) (t1 t2 : Slot), p.Sublist ms → c.Sublist ms → (∀ s ∈ p, s ∉ c) → SS (Xc P w K mg base N_row "_law_row" s_l_row f cdv A outer s H E) (some (b, ns)) (poOf fun d => ∃ r, Rq ms r ∧ d = prD r) [.ro (.adr b), .ro (sL ms), .ro (sT sp), .ro (.int (rd : Nat)), .ro (.lst (zs.map fun n => D.int (n : Nat))), .ro (sL p), .ro (sL c), t1, t2] ((defBody s_l_row).drop 5) := fun p c t1 t2 hp hc hpc => by
    have lp := hp.length_le
    have lc := hc.length_le
    exact ss_ret (P := fun d => d = prD (srt p, srt c)) (jd_tup (jac (jd_tuple T (d := sL (srt p)) (jd_sorted T (d := sL p) (jv 5) (by omega) (.inl rfl)) (.inl rfl)) (jac (jd_tuple T (d := sL (srt c)) (jd_sorted T (d := sL c) (jv 6) (by omega) (.inl rfl)) (.inl rfl)) jan))) fun d h => ⟨_, Rq.of hn h5 hp hc hpc, h⟩
  refine ss_ifD0 (u := !lbears sp (pr, cn)) (jt_not (jt_val (jd_f F2 ⟨(sp, false, (pr, cn)), hz⟩ hr (jac (jv 2) (jac (jd_tup (jac (jv 5) (jac (jv 6) jan))) jan))))) (fun _ => ?_) fun _ => tail pr cn _ _ sp1 sp2 hap
  refine ss_par (P1 := fun z => z = sL cn) (P2 := fun z => z = sL pr) 5 6 rfl nd (jv 6) (jv 5) ?_
  rintro _ _ rfl rfl
  exact ss_nil (tail cn pr _ _ sp2 sp1 fun s h1 h2 => hap s h2 h1)
end
end FD
end
section
set_option maxHeartbeats 2000000
/-! drawn rows and records, together -/
namespace FD
open PySem PySem.Spec PyProof.Rows L2
def forBody : Stmt → List Stmt
  | .For _ _ b _ _ => b
  | _ => []
theorem perm_strs {es : List D} {ss : List Str} (h : es.Perm (ss.map D.str)) : ∃ zs : List Str, zs.Perm ss ∧ es = zs.map D.str := by
  have h1 : es.all D.isStr = true := List.all_eq_true.mpr fun e he => by
    obtain ⟨s, _, rfl⟩ := List.mem_map.mp (h.mem_iff.mp he)
    rfl
  refine ⟨es.map D.txt, ?_, all_strs h1⟩
  have := h.map D.txt
  rw [List.map_map] at this
  have e : ss.map (D.txt ∘ D.str) = ss := List.map_id ss
  rwa [e] at this
theorem Nms.perm {ss zs : List Str} (h : Nms ss) (p : zs.Perm ss) : Nms zs := ⟨fun s hs => h.ok s (p.mem_iff.mp hs), p.nodup_iff.mpr h.nd⟩
section
variable {P : Program} {w : World} {K : PySem.W.Frag} {mg : Str → Option Value} {base : Heap} (T : Mo K mg)
abbrev s_l_rows : Stmt := top 153
abbrev N_rows : List Str := ["_law_bag", "_law_names_here", "_law_many", "_law_spine", "_law_found", "_law_k", "_law_road", "_law_row_here"]
theorem sc_l_rows : FnScope N_rows ["_law_bag", "_law_names_here", "_law_many"] (defScope s_l_rows) := ⟨rfl, rfl, rfl, by decide +kernel, rfl, by decide +kernel, by decide +kernel⟩
abbrev P_l_rows : Sp := Dro (ι := {p : List Str × Nat // (Nms p.1 ∧ p.1.length ≤ 5) ∧ p.2 ≤ 8}) (fun i => [sL i.1.1, .int (i.1.2 : Nat)]) fun i d => ∃ rows : List Rw, rows.length = i.1.2 ∧ (∀ r ∈ rows, Rq i.1.1 r) ∧ d = .lst (rows.map prD)
include T in
theorem F_l_rows (dn : Dn K mg "_law_rows" s_l_rows) (F1 : Fd P w K mg base "_law_pull" 1 P_l_pull) (F2 : Fd P w K mg base "_law_any" 2 SpAny) (F3 : Fd P w K mg base "_law_mixed" 2 P_l_mixed) (F4 : Fd P w K mg base "_law_row" 2 P_l_row) : Fd P w K mg base "_law_rows" 3 P_l_rows := by
  refine dn.fd (fun f fd G => fn_dro (k := 2) G sc_l_rows (fun i => rfl) ?_) fun f fd G => G.binds fun _ _ _ _ _ _ us hl => match us, hl with | [_, _, _], _ => rfl
  rintro ⟨⟨ms, n⟩, ⟨hn, h5⟩, hn8⟩ b ns f cdv A outer s H E hr
  replace hn : Nms ms := hn
  replace h5 : ms.length ≤ 5 := h5
  replace hn8 : n ≤ 8 := hn8
  have nd := sc_l_rows.nd
  have hr1 := hr.mono (show 1 ≤ 2 by decide)
  refine ss_set (P := fun d => ∃ sp : List Str, sp.length ≤ 5 ∧ SOk sp ∧ d = sT sp) 3 nd (j_if (jt_eqK (m := 2) (jd_fb F1 ⟨2, by decide, by decide⟩ hr1 (jac (jv 0) (jac j_int jan))) j_int) (fun _ => jp_tuple T (P1 := fun d => ∃ es : List D, es.Perm (ms.map D.str) ∧ d = .lst es) (jd_fb F3 ⟨ms.map D.str, by rw [List.length_map]; omega⟩ hr (jac (jv 0) (jac (jv 1) jan))) ?_) (fun _ => J.imp (P := fun d => d = .tup []) (jd_tup jan) ?_)) ?_
  · rintro _ ⟨es, hp, rfl⟩
    obtain ⟨zs, hz, rfl⟩ := perm_strs hp
    exact ⟨_, .inl rfl, zs, by rw [hz.length_eq]; exact h5, (hn.perm hz).sok, rfl⟩
  · rintro _ rfl
    exact ⟨[], by decide, (fun _ h => nomatch h), rfl⟩
  rintro _ ⟨sp, hsp, hsk, rfl⟩
  refine ss_own0 4 nd ?_
  refine ss_for [5] rfl PassesOwn.never (ji_range T (i := (n : Int)) (jv 2) (by omega) (by omega)) (fun its i ρ1 => ∃ (rows : List Rw) (t1 t2 t3 : Slot), rows.length = i ∧ (∀ r ∈ rows, Rq ms r) ∧ ρ1 = [.ro (.adr b), .ro (sL ms), .ro (.int (n : Nat)), .ro (sT sp), .own (rows.map prD), t1, t2, t3]) (fun its e => ⟨[], .any, .any, .any, rfl, (fun _ h => nomatch h), rfl⟩) ?_ ?_
  · rintro _ i d ρ1 rfl hd ⟨rows, t1, t2, t3, hl, hq, rfl⟩
    have hi : i < n := by
      have := (List.getElem?_eq_some_iff.mp hd).1
      simpa [rng] using this
    have hrs : ∀ r ∈ rows, SOk r.1 ∧ SOk r.2 := fun r h => (hq r h).ok.s
    have hll : (rows.map prD).length ≤ 8 := by rw [List.length_map]; omega
    refine ⟨_, jg_name (i := 5) nd rfl (by first | exact Or.inl rfl | exact Or.inr rfl) (by decide), ?_⟩
    refine ss_par (P1 := fun d => ∃ k : Nat, k < 8 ∧ d = .int (k : Nat)) (P2 := fun d => ∃ r, Rq ms r ∧ d = prD r) 6 7 rfl nd (jd_fb F1 ⟨8, by decide, by decide⟩ hr1 (jac (jv 0) (jac j_int jan))) (jd_fb F4 ⟨(ms, sp), ⟨hn, h5⟩, by show sp.length ≤ 1000; omega⟩ hr (jac (jv 0) (jac (jv 1) (jac (jv 3) jan)))) ?_
    rintro _ _ ⟨rd, _, rfl⟩ ⟨r0, hr0, rfl⟩
    -- the end of the turn
    have tail2 : ∀ (r : Rw), Rq ms r → SS (Xc P w K mg base N_rows "_law_rows" s_l_rows f cdv A outer s H E) (some (b, ns)) ⟨(poOf fun d => ∃ rows : List Rw, rows.length = n ∧ (∀ r ∈ rows, Rq ms r) ∧ d = .lst (rows.map prD)).R, fun ρ1 => ∃ (rows : List Rw) (t1 t2 t3 : Slot), rows.length = i + 1 ∧ (∀ r ∈ rows, Rq ms r) ∧ ρ1 = [.ro (.adr b), .ro (sL ms), .ro (.int (n : Nat)), .ro (sT sp), .own (rows.map prD), t1, t2, t3], fun ρ1 => ∃ (rows : List Rw) (t1 t2 t3 : Slot), rows.length = i + 1 ∧ (∀ r ∈ rows, Rq ms r) ∧ ρ1 = [.ro (.adr b), .ro (sL ms), .ro (.int (n : Nat)), .ro (sT sp), .own (rows.map prD), t1, t2, t3], fun ρ' => SS (Xc P w K mg base N_rows "_law_rows" s_l_rows f cdv A outer s H E) (some (b, ns)) (poOf fun d => ∃ rows : List Rw, rows.length = n ∧ (∀ r ∈ rows, Rq ms r) ∧ d = .lst (rows.map prD)) ρ' ((defBody s_l_rows).drop 3)⟩ [.ro (.adr b), .ro (sL ms), .ro (.int (n : Nat)), .ro (sT sp), .own (rows.map prD), .ro d, .ro (.int (rd : Nat)), .ro (prD r)] ((forBody ((defBody s_l_rows).getD 2 (.Pass ⟨0, 0, 0, 0⟩))).drop 3) := fun r hr9 => by
      refine ss_append 4 (jv 7) rfl (by rw [sizeLine_eq]; omega) ?_
      rintro _ rfl
      refine ss_nil ⟨rows ++ [r], .ro d, .ro (.int (rd : Nat)), .ro (prD r), by rw [List.length_append, hl]; rfl, fun x hx => ?_, by rw [List.map_append]; rfl⟩
      rcases List.mem_append.mp hx with hx | hx
      · exact hq x hx
      · rw [List.mem_singleton] at hx
        exact hx ▸ hr9
    have mem1 : ∀ x ∈ rows.map prD, ∃ r, Rq ms r ∧ x = prD r := fun x hx => by
      obtain ⟨r, hr9, rfl⟩ := List.mem_map.mp hx
      exact ⟨r, hq r hr9, rfl⟩
    have ne1 : (!(rows.map prD).isEmpty) = true → 1 ≤ (rows.map prD).length := fun h => by
      cases e : rows.map prD with
      | nil => rw [e] at h; cases h
      | cons a t => rw [List.length_cons]; omega
    have tail1 : ∀ (r : Rw), Rq ms r → SS (Xc P w K mg base N_rows "_law_rows" s_l_rows f cdv A outer s H E) (some (b, ns)) ⟨(poOf fun d => ∃ rows : List Rw, rows.length = n ∧ (∀ r ∈ rows, Rq ms r) ∧ d = .lst (rows.map prD)).R, fun ρ1 => ∃ (rows : List Rw) (t1 t2 t3 : Slot), rows.length = i + 1 ∧ (∀ r ∈ rows, Rq ms r) ∧ ρ1 = [.ro (.adr b), .ro (sL ms), .ro (.int (n : Nat)), .ro (sT sp), .own (rows.map prD), t1, t2, t3], fun ρ1 => ∃ (rows : List Rw) (t1 t2 t3 : Slot), rows.length = i + 1 ∧ (∀ r ∈ rows, Rq ms r) ∧ ρ1 = [.ro (.adr b), .ro (sL ms), .ro (.int (n : Nat)), .ro (sT sp), .own (rows.map prD), t1, t2, t3], fun ρ' => SS (Xc P w K mg base N_rows "_law_rows" s_l_rows f cdv A outer s H E) (some (b, ns)) (poOf fun d => ∃ rows : List Rw, rows.length = n ∧ (∀ r ∈ rows, Rq ms r) ∧ d = .lst (rows.map prD)) ρ' ((defBody s_l_rows).drop 3)⟩ [.ro (.adr b), .ro (sL ms), .ro (.int (n : Nat)), .ro (sT sp), .own (rows.map prD), .ro d, .ro (.int (rd : Nat)), .ro (prD r)] ((forBody ((defBody s_l_rows).getD 2 (.Pass ⟨0, 0, 0, 0⟩))).drop 2) := fun r hr9 => by
      refine ss_ifD0 (u := decide (((rd : Nat) : Int) = 1) && ((!(rows.map prD).isEmpty) && decide (sp = []))) (JW.t (jw_and (jt_eqI (jv 6) j_int) fun _ => jw_and (jt_own 4 (jt_neNil hr.units (jv 4) (Pz.rows hrs))) fun _ => jw_and1 (jt_eqST2 (zs := []) hr.units (jv 3) (jd_tup jan) hsk (fun _ h => nomatch h)))) (fun h => ?_) fun _ => tail2 r hr9
      rw [Bool.and_eq_true, Bool.and_eq_true] at h
      refine ss_set (P := fun d => ∃ r, Rq ms r ∧ d = prD r) 7 nd (jp_back (P1 := fun d => ∃ r, Rq ms r ∧ d = prD r) (j_anyOwn 4 F2 hr (jv 0) rfl (ne1 h.2.1) (by omega) mem1) ?_) ?_
      · rintro _ ⟨r, hr9, rfl⟩
        exact .inr ⟨_, _, rfl, (r.2, r.1), hr9.turn, rfl⟩
      · rintro _ ⟨r, hr9, rfl⟩
        exact ss_nil (tail2 r hr9)
    refine ss_ifD0 (u := decide (((rd : Nat) : Int) = 0) && (!(rows.map prD).isEmpty)) (JW.t (jw_and (jt_eqI (jv 6) j_int) fun _ => jw_and1 (jt_own 4 (jt_neNil hr.units (jv 4) (Pz.rows hrs))))) (fun h => ?_) fun _ => tail1 r0 hr0
    rw [Bool.and_eq_true] at h
    refine ss_set (P := fun d => ∃ r, Rq ms r ∧ d = prD r) 7 nd (j_anyOwn 4 F2 hr (jv 0) rfl (ne1 h.2) (by omega) mem1) ?_
    rintro _ ⟨r, hr9, rfl⟩
    exact ss_nil (tail1 r hr9)
  · rintro _ ρ1 rfl ⟨rows, t1, t2, t3, hl, hq, rfl⟩
    refine ss_frz 4 rfl ?_
    have hrl : (rng n).length = n := by simp [rng]
    exact ss_ret (P := fun d => d = .lst (rows.map prD)) (jv 4) fun d h => ⟨rows, hl.trans hrl, hq, h⟩
/-! records -/
/-- drawn records -/
structure Rcs (ns : List Str) (rs : List Rc) : Prop where
  m : Nms (rs.map Prod.fst)
  q : ∀ r ∈ rs, Rq ns r.2
  l8 : rs.length ≤ 8
abbrev s_l_records : Stmt := top 154
abbrev N_records : List Str := ["_law_bag", "_law_names_here", "_law_many", "_law_rows_here", "_law_one", "_law_row_here"]
theorem sc_l_records : FnScope N_records ["_law_bag", "_law_names_here", "_law_many"] (defScope s_l_records) := ⟨rfl, rfl, rfl, by decide +kernel, rfl, by decide +kernel, by decide +kernel⟩
abbrev P_l_records : Sp := Dro (ι := {p : List Str × Nat // (Nms p.1 ∧ p.1.length ≤ 5) ∧ p.2 ≤ 8}) (fun i => [sL i.1.1, .int (i.1.2 : Nat)]) fun i d => ∃ rs : List Rc, Rcs i.1.1 rs ∧ d = .lst (rs.map rcD)
theorem zipD_recs (ss : List Str) (rows : List Rw) : zipD (ss.map D.str) (rows.map prD) = (ss.zip rows).map rcD := by
  unfold zipD
  rw [List.zipWith_map, List.zip, List.map_zipWith]
  rfl
theorem zip_snd_mem {α β : Type} {xs : List α} {ys : List β} {p : α × β} (h : p ∈ xs.zip ys) : p.2 ∈ ys := (List.of_mem_zip (a := p.1) (b := p.2) h).2
include T in
theorem F_l_records (dn : Dn K mg "_law_records" s_l_records) (F1 : Fd P w K mg base "_law_names" 3 P_l_names) (F2 : Fd P w K mg base "_law_rows" 3 P_l_rows) : Fd P w K mg base "_law_records" 4 P_l_records := by
  refine dn.fd (fun f fd G => fn_dro (k := 3) G sc_l_records (fun i => rfl) ?_) fun f fd G => G.binds fun _ _ _ _ _ _ us hl => match us, hl with | [_, _, _], _ => rfl
  rintro ⟨⟨ms, n⟩, ⟨hn, h5⟩, hn8⟩ b ns f cdv A outer s H E hr
  replace hn : Nms ms := hn
  replace h5 : ms.length ≤ 5 := h5
  replace hn8 : n ≤ 8 := hn8
  have nd := sc_l_records.nd
  refine ss_set (P := fun d => ∃ rows : List Rw, rows.length = n ∧ (∀ r ∈ rows, Rq ms r) ∧ d = .lst (rows.map prD)) 3 nd (jd_fb F2 ⟨(ms, n), ⟨hn, h5⟩, hn8⟩ hr (jac (jv 0) (jac (jv 1) (jac (jv 2) jan)))) ?_
  rintro _ ⟨rows, hl, hq, rfl⟩
  refine ss_ret (P := fun d => ∃ rs : List Rc, Rcs ms rs ∧ d = .lst (rs.map rcD)) (j_lc (own := [("_law_one", 4), ("_law_row_here", 5)]) (Pi := fun its => ∃ rs : List Rc, Rcs ms rs ∧ its = rs.map rcD) rfl nd (blkOk_by (by kernel_rfl)) (ji_zip (Ps := fun z => ∃ ss : List Str, Nms ss ∧ ss.length = n ∧ z = [sL ss, .lst (rows.map prD)]) T (JA.imp (P := fun ds => ∃ d ds', ds = d :: ds' ∧ (∃ ss : List Str, Nms ss ∧ ss.length = n ∧ d = sL ss) ∧ ds' = [.lst (rows.map prD)]) (ja_cons (jd_fb F1 ⟨n, hn8⟩ hr (jac (jv 0) (jac (jv 2) jan))) (jac (jv 3) jan)) ?_) ?_) (fun its i acc => acc = its.take i) (fun _ _ => rfl) ?_ ?_) fun d h => h
  · rintro _ ⟨_, _, rfl, ⟨ss, h1, h2, rfl⟩, rfl⟩
    exact ⟨ss, h1, h2, rfl⟩
  · rintro _ ⟨ss, h1, h2, rfl⟩
    have hz := zip_fst ss rows (h2.trans hl.symm)
    refine ⟨ss.map D.str, rows.map prD, .inl rfl, by rw [List.length_map]; omega, ss.zip rows, ⟨by rw [hz]; exact h1, fun r hr9 => hq _ (zip_snd_mem hr9), ?_⟩, zipD_recs ss rows⟩
    rw [List.length_zip]
    omega
  · rintro _ i d acc ⟨rs, hrs, rfl⟩ hd rfl _
    obtain ⟨r, hr9, rfl⟩ := map_get hd
    refine ⟨_, fun z => z = true, fun d => d = rcD r, fun _ _ _ _ _ => jg_two (i := 4) (j := 5) rfl nd rfl (by first | exact Or.inl rfl | exact Or.inr rfl) rfl (by first | exact Or.inl rfl | exact Or.inr rfl) (by decide) (by decide) rfl, fun _ _ _ _ _ => jf_nil, fun _ => ⟨fun _ _ _ _ _ => jd_tup (jac (jv 4) (jac (jv 5) jan)), ?_⟩, fun h => by cases h⟩
    rintro _ rfl
    obtain ⟨h1, h2⟩ := List.getElem?_eq_some_iff.mp hd
    rw [← h2]
    exact (List.take_succ_eq_append_getElem h1).symm
  · rintro _ acc ⟨rs, hrs, rfl⟩ rfl _
    exact ⟨rs, hrs, by rw [List.take_length]⟩
abbrev s_l_with_idle : Stmt := top 175
abbrev N_idle : List Str := ["_law_bag", "_law_records_here", "_law_late", "_law_spot"]
theorem sc_l_with_idle : FnScope N_idle ["_law_bag", "_law_records_here"] (defScope s_l_with_idle) := ⟨rfl, rfl, rfl, by decide +kernel, rfl, by decide +kernel, by decide +kernel⟩
abbrev P_l_with_idle : Sp := Dro (ι := {p : List Str × List Rc // Rcs p.1 p.2}) (fun i => [.lst (i.1.2.map rcD)]) fun i d => ∃ rs : List Rc, Rcs i.1.1 rs ∧ d = .lst (rs.map rcD)
omit T in
theorem Rcs.pz {ns : List Str} {rs : List Rc} (h : Rcs ns rs) : Pz (rs.map rcD) := Pz.recs fun r hr => ⟨nm_ok (h.m.ok _ (List.mem_map_of_mem hr)), (h.q r hr).ok.s⟩
include T in
theorem F_l_with_idle (dn : Dn K mg "_law_with_idle" s_l_with_idle) (F1 : Fd P w K mg base "_law_pull" 1 P_l_pull) : Fd P w K mg base "_law_with_idle" 2 P_l_with_idle := by
  refine dn.fd (fun f fd G => fn_dro (k := 1) G sc_l_with_idle (fun i => rfl) ?_) fun f fd G => G.binds fun _ _ _ _ _ _ us hl => match us, hl with | [_, _], _ => rfl
  rintro ⟨⟨ms, rs⟩, hrs⟩ b ns f cdv A outer s H E hr
  replace hrs : Rcs ms rs := hrs
  have l8 := hrs.l8
  have nd := sc_l_with_idle.nd
  have tail : ∀ (zs : List Rc) (t1 : Slot), Rcs ms zs → SS (Xc P w K mg base N_idle "_law_with_idle" s_l_with_idle f cdv A outer s H E) (some (b, ns)) (poOf fun d => ∃ rs : List Rc, Rcs ms rs ∧ d = .lst (rs.map rcD)) [.ro (.adr b), .ro (.lst (rs.map rcD)), .own (zs.map rcD), t1] ((defBody s_l_with_idle).drop 2) := fun zs t1 hz => by
    refine ss_frz 2 rfl ?_
    exact ss_ret (P := fun d => d = .lst (zs.map rcD)) (jv 2) fun d h => ⟨zs, hz, h⟩
  refine ss_ownL (P1 := fun d => d = .lst (rs.map rcD)) 2 nd T (jv 1) ?_
  rintro _ rfl
  refine ⟨rs.map rcD, .inl rfl, ?_⟩
  refine ss_if0 (Pb := fun z => z = true → rs ≠ []) (JW.t (jwp_and (jt_own 2 (jt_neNil hr.units (jv 2) hrs.pz)) (fun h => jwp_and1 (JT.imp (jt_eqK (m := 2) (jd_fb F1 ⟨2, by decide, by decide⟩ hr (jac (jv 0) (jac j_int jan))) j_int) fun _ _ _ e => by subst e; cases h)) fun _ h => nomatch h)) (fun h => ?_) fun _ => tail rs _ hrs
  have hne := h rfl
  have hl0 : 1 ≤ rs.length := by
    cases rs with
    | nil => exact absurd rfl hne
    | cons a t => rw [List.length_cons]; omega
  refine ss_set (P := fun d => ∃ k : Nat, k < rs.length ∧ d = .int (k : Nat)) 3 nd (jd_fb F1 ⟨rs.length, hl0, by omega⟩ hr (jac (jv 0) (jac (j_eq (j_own 2 (jd_len T (ds := rs.map rcD) (jv 2) (.inl rfl)) (by rintro _ rfl; rfl)) (by rw [List.length_map])) jan))) ?_
  rintro _ ⟨k, hk, rfl⟩
  have hat : atI (rs.map rcD) ((k : Nat) : Int) = some (rcD rs[k]) := by
    rw [at_nat (by rw [List.length_map]; exact hk), List.getElem_map]
  refine ss_setitem (P1 := fun d => d = rcD (rs[k].1, ([], []))) (P2 := fun d => d = .int (k : Nat)) 2 (jd_tup (ds := [.str rs[k].1, prD ([], [])]) (jac (j_own 2 (jd_ix (d1 := rcD rs[k]) (jd_ix (ds := rs.map rcD) (jv 2) (jv 3) hat (.inl rfl)) j_int at0 (.inr rfl)) (by rintro _ rfl; rfl)) (jac (jd_tup (jac (jd_tup jan) (jac (jd_tup jan) jan))) jan))) (jv 3) rfl ?_
  rintro _ _ rfl rfl
  refine ⟨k, rfl, by rw [List.length_map]; exact hk, ss_nil ?_⟩
  rw [← List.map_set]
  refine tail _ _ ⟨?_, fun r hr9 => ?_, by rw [List.length_set]; exact l8⟩
  · rw [List.map_set]
    have e : (rs.map Prod.fst).set k rs[k].1 = rs.map Prod.fst := by
      have := List.set_getElem_self (as := rs.map Prod.fst) (i := k) (by rw [List.length_map]; exact hk)
      rw [List.getElem_map] at this
      exact this
    show Nms ((rs.map Prod.fst).set k rs[k].1)
    rw [e]
    exact hrs.m
  · rcases List.mem_or_eq_of_mem_set hr9 with h | h
    · exact hrs.q r h
    · rw [h]; exact Rq.nil ms
end
end FD
end
section
set_option maxHeartbeats 2000000
/-! drawn parts: odd ones, orders -/
namespace FD
open PySem PySem.Spec PyProof.Rows L2
section
variable {X : Cx} {g : Bg} {ρ : List Slot} {a b vx : Expr} {d : D} {pos kp p2 : Pos} {s : Str} {i j k : Int} {kk : Nat}
theorem jd_neg (h : JD X g ρ a (.int i)) : JD X g ρ (.UnaryOp .USub a pos) (.int (-i)) := j_of (pe_un un_neg pe_W) fun B σ M H E Q q => h.at_ E fun d v M1 H1 p E1 s iv => by
  subst p
  cases iv
  exact ⟨i, rfl, (Kn.to q s).here E1.at_ rfl (.int _)⟩
theorem jd_dic1 {kc : Nat} (h : JD X g ρ vx d) : JD X g ρ (.Dict [some (.Constant (.str s) kc kp)] [vx] pos) (.dic [(s, d)]) := jp_dic1 (kx := .Name "x" ⟨0, 0, 0, 0⟩) h (by rintro _ rfl; rfl)
theorem jt_inI2 (ha : JD X g ρ a (.int i)) (hb : JD X g ρ b (.tup [.int j, .int k])) (hm : behindInMarks .In b = false := by rfl) : JTD X g ρ (.Compare a [.In] [b] pos) (decide (i = j) || decide (i = k)) := jt_cmp op_in_seq ha hb (by
  rintro _ _ v1 v2 M H rfl rfl A i1 i2 Q q
  cases i1
  cases i2 with
  | tup e l =>
    cases l with
    | cons x1 l =>
    cases l with
    | cons x2 l =>
    cases l
    cases x1
    cases x2
    refine ⟨_, _, rfl, .inr (SqT.of (A.sub _ _ e)), rfl, rfl, ?_⟩
    have e2 : inV (.int i) [V.int j, V.int k] = (decide (i = j) || decide (i = k)) := by
      simp only [inV, List.any_cons, List.any_nil, Bool.or_false, eqV]
      rw [beq_dec, beq_dec, decide_eq_decide.mpr (eq_comm (a := j)), decide_eq_decide.mpr (eq_comm (a := k))]
    simp only [Bool.false_eq_true, if_false]
    rw [e2]
    exact q.here A ⟨_, rfl, rfl⟩ (.bl _)) hm
end
def isStar : Expr → Bool
  | .Starred _ _ => true
  | _ => false
theorem star_ns {e : Expr} {es : List Expr} {env : PySem.Env} (h : isStar e = false) : starEach (e :: es) env = (false, eval e env) :: starEach es env := by
  cases e <;> first | rfl | cases h
/-- .. where the text is long -/
theorem jaq {X : Cx} {g : Bg} {ρ : List Slot} {e : Expr} {es : List Expr} {d : D} {ds : List D} (h : JD X g ρ e d) (t : JAD X g ρ es ds) (hs : isStar e = false := by rfl) : JAD X g ρ (e :: es) (d :: ds) := jac h t (star_ns hs)
/-! ### what a drawn part is -/
section
variable {K : PySem.W.Frag} {mg : Str → Option Value} (T : Mo K mg)
structure Pk (p : Pa) : Prop where
  ok : PaOk T p
  fw : few p
  nw : ∀ wd, p = .str wd → wd ∉ words5
  fl : ∀ t its, p = .seq t its → ∀ e ∈ its, e.flat = true ∨ e = .tup []
theorem Pk.flat {p : Pa} (h : PaOk T p) (hf : ∀ t its, p ≠ .seq t its) (hn : ∀ wd, p ≠ .str wd) : Pk T p := by
  refine ⟨h, ?_, fun wd e => absurd e (hn wd), fun t its e => absurd e (hf t its)⟩
  cases p with
  | seq t its => exact absurd rfl (hf t its)
  | _ => trivial
theorem Pk.word {s : Str} (h : s.length ≤ 1000) (hn : s ∉ words5) : Pk T (.str s) := ⟨h, trivial, fun wd e => by cases e; exact hn, fun t its e => nomatch e⟩
theorem it_str {s : Str} (h : s.length ≤ 1000) : ItOk T (.str s) := ⟨⟨_, rfl⟩, h, rfl⟩
theorem Pk.strs {ss : List Str} (t : Bool) (h : ss.length < 64) (hs : ∀ s ∈ ss, s.length ≤ 1000) : Pk T (.seq t (ss.map D.str)) := by
  refine ⟨⟨by rw [List.length_map]; omega, fun e he => ?_⟩, by show (ss.map D.str).length < 64; rw [List.length_map]; exact h, (fun wd e => nomatch e), fun t its e x hx => ?_⟩
  · obtain ⟨s, hs2, rfl⟩ := List.mem_map.mp he
    exact it_str T (hs s hs2)
  · cases e
    obtain ⟨s, _, rfl⟩ := List.mem_map.mp hx
    exact .inl rfl
theorem Pk.ord {o : List Str} (h : OrOk o) : Pk T (.ord o) := Pk.flat T h (fun _ _ e => nomatch e) fun _ e => nomatch e
theorem Pk.row {r : Rw} (h : RwOk r) (hs : rowS r = r) : Pk T (.row r) := by
  refine Pk.flat T ⟨h, ?_, ?_⟩ (fun _ _ e => nomatch e) fun _ e => nomatch e
  · exact congrArg Prod.fst hs
  · exact congrArg Prod.snd hs
end
/-! ### an odd thing -/
def odds : List D := [.non, .bl true, .bl false, .int 0, .int 1, .int (-1), .str "", .str "sevenxx", .str "Q", .tup [], .lst [], .tup [.str "a"], .lst [.str "a"], .tup [.tup [.str "a"]], .tup [.non, .int 1]]
section
variable {P : Program} {w : World} {K : PySem.W.Frag} {mg : Str → Option Value} {base : Heap} (T : Mo K mg)
abbrev s_l_odd : Stmt := top 149
theorem sc_l_odd : FnScope ["_law_bag"] ["_law_bag"] (defScope s_l_odd) := ⟨rfl, rfl, rfl, by decide +kernel, rfl, by decide +kernel, by decide +kernel⟩
abbrev P_l_odd : Sp := Dro (ι := Unit) (fun _ => []) fun _ d => d ∈ odds
include T in
theorem F_l_odd (dn : Dn K mg "_law_odd" s_l_odd) (F2 : Fd P w K mg base "_law_any" 2 SpAny) : Fd P w K mg base "_law_odd" 3 P_l_odd := by
  refine dn.fd (fun f fd G => fn_dro (k := 2) G sc_l_odd (fun i => rfl) ?_) fun f fd G => G.binds fun _ _ _ _ _ _ us hl => match us, hl with | [_], _ => rfl
  rintro _ b ns f cdv A outer s H E hr
  refine ss_ret (P := fun d => d ∈ odds) (j_any F2 hr (jv 0) (jd_lst (ds := odds) ?_) ?_) fun d h => h
  · refine jac ?_ ?_
    · exact j_non
    refine jac ?_ ?_
    · exact j_bl
    refine jac ?_ ?_
    · exact j_bl
    refine jac ?_ ?_
    · exact j_int
    refine jac ?_ ?_
    · exact j_int
    refine jac ?_ ?_
    · exact jd_neg j_int
    refine jac ?_ ?_
    · exact j_str
    refine jac ?_ ?_
    · exact j_str
    refine jac ?_ ?_
    · exact j_str
    refine jac ?_ ?_
    · exact jd_tup jan
    refine jac ?_ ?_
    · exact jd_lst jan
    refine jac ?_ ?_
    · refine jd_tup ?_
      refine jac ?_ ?_
      · exact j_str
      exact jan
    refine jac ?_ ?_
    · refine jd_lst ?_
      refine jac ?_ ?_
      · exact j_str
      exact jan
    refine jac ?_ ?_
    · refine jd_tup ?_
      refine jac ?_ ?_
      · refine jd_tup ?_
        refine jac ?_ ?_
        · exact j_str
        exact jan
      exact jan
    refine jac ?_ ?_
    · refine jd_tup ?_
      refine jac ?_ ?_
      · exact j_non
      refine jac ?_ ?_
      · exact j_int
      exact jan
    exact jan
  · rintro _ rfl
    exact ⟨_, rfl, by decide, by decide, fun x hx => hx⟩
/-! ### an odd part -/
/-- the reasons of a law's book -/
structure Nq5 (ms : List Str) : Prop where
  n : Nms ms
  n0 : 1 ≤ ms.length
  n5 : ms.length ≤ 5
theorem Nq5.or {ms : List Str} (h : Nq5 ms) : OrOk ms := ⟨h.n, h.n0, by have := h.n5; omega⟩
def oddPs (ms : List Str) : List Pa := [.non, .int 0, .bl true, .str "", .seq true [], .seq false [], .dic, .row ((srt ms).take 1, []), .ord (srt ms), .seq true ((srt ms).map D.str), .str "fits", .seq true [.non]]
theorem Nq5.srt {ms : List Str} (h : Nq5 ms) : OrOk (srt ms) := ⟨srt_nms h.n, by rw [srt_len]; exact h.n0, by rw [srt_len]; have := h.n5; omega⟩
/-- a sorted part of a sorted list -/
theorem srt_fix {xs : List Str} (h : xs.Pairwise fun a b => sle a b = true) : srt xs = xs := List.Perm.eq_of_pairwise (fun a b _ _ h1 h2 => sle_antisymm h1 h2) (srt_pw xs) h (srt_perm xs)
theorem srt_sub {xs ys : List Str} (h : xs.Sublist ys) (hy : srt ys = ys) : srt xs = xs := srt_fix ((hy ▸ srt_pw ys).sublist h)
theorem pk_odds {ms : List Str} (h : Nq5 ms) : ∀ p ∈ oddPs ms, Pk T p := by
  have h5 := h.n5
  have hl : (srt ms).length ≤ 5 := by rw [srt_len]; exact h5
  intro p hp
  simp only [oddPs, List.mem_cons, List.not_mem_nil, or_false] at hp
  rcases hp with rfl | rfl | rfl | rfl | rfl | rfl | rfl | rfl | rfl | rfl | rfl | rfl
  · exact Pk.flat T trivial (fun _ _ e => nomatch e) fun _ e => nomatch e
  · exact Pk.flat T trivial (fun _ _ e => nomatch e) fun _ e => nomatch e
  · exact Pk.flat T trivial (fun _ _ e => nomatch e) fun _ e => nomatch e
  · exact Pk.word T (by decide) (by decide)
  · exact Pk.strs T (ss := []) true (by decide) (fun _ h => nomatch h)
  · exact Pk.strs T (ss := []) false (by decide) (fun _ h => nomatch h)
  · exact Pk.flat T trivial (fun _ _ e => nomatch e) fun _ e => nomatch e
  · have hs : ((srt ms).take 1).Sublist (srt ms) := List.take_sublist _ _
    have hn := srt_nms h.n
    refine Pk.row T ⟨⟨fun s hx => hn.ok s (hs.subset hx), hs.nodup hn.nd⟩, ⟨(fun _ h => nomatch h), .nil⟩, (fun _ _ h => nomatch h), ?_, Nat.zero_le 8⟩ ?_
    · show ((srt ms).take 1).length ≤ 8
      rw [List.length_take]
      omega
    · show (srt ((srt ms).take 1), srt []) = _
      rw [srt_sub hs (srt_srt ms), srt_fix .nil]
  · exact Pk.ord T h.srt
  · exact Pk.strs T true (by omega) fun s hs => Nat.le_trans (nm_len ((srt_nms h.n).ok s hs)) (by decide)
  · exact Pk.word T (by decide) (by decide)
  · exact ⟨⟨by decide, fun e he => by rw [List.mem_singleton] at he; subst he; exact ⟨⟨_, rfl⟩, by decide, rfl⟩⟩, by show [D.non].length < 64; decide, (fun _ e => nomatch e), fun t its e x hx => by cases e; rw [List.mem_singleton] at hx; subst hx; exact .inl rfl⟩
abbrev s_l_odd_part : Stmt := top 170
abbrev N_oddp : List Str := ["_law_bag", "_law_names_here", "_law_least"]
theorem sc_l_odd_part : FnScope N_oddp ["_law_bag", "_law_names_here"] (defScope s_l_odd_part) := ⟨rfl, rfl, rfl, by decide +kernel, rfl, by decide +kernel, by decide +kernel⟩
abbrev P_l_odd_part : Sp := Dro (ι := {ms : List Str // Nq5 ms}) (fun i => [sL i.1]) fun i d => ∃ p, Pk T p ∧ d = pD p
theorem cutD_to (ss : List Str) (k : Nat) : cutD (ss.map D.str) none (some (k : Int)) = (ss.take k).map D.str := by
  unfold cutD
  rw [HT.sIx_none, HT.sIx_nat, List.drop_zero, Nat.sub_zero, ← List.map_take]
  congr 1
  rw [List.take_eq_take_iff, List.length_map]
  omega
theorem cutD_from (ss : List Str) (k : Nat) : cutD (ss.map D.str) (some (k : Int)) none = (ss.drop k).map D.str := by
  unfold cutD
  rw [HT.sIx_none, HT.sIx_nat, ← List.map_drop, ← List.map_take, List.length_map]
  congr 1
  have e : ss.drop (min k ss.length) = ss.drop k := by
    rcases Nat.le_total k ss.length with h | h
    · rw [Nat.min_eq_left h]
    · rw [Nat.min_eq_right h, List.drop_eq_nil_of_le (Nat.le_refl _), List.drop_eq_nil_of_le h]
  rw [e, List.take_of_length_le]
  rw [List.length_drop]
  omega
theorem F_l_odd_part (dn : Dn K mg "_law_odd_part" s_l_odd_part) (F2 : Fd P w K mg base "_law_any" 2 SpAny) : Fd P w K mg base "_law_odd_part" 3 (P_l_odd_part T) := by
  refine dn.fd (fun f fd G => fn_dro (k := 2) G sc_l_odd_part (fun i => rfl) ?_) fun f fd G => G.binds fun _ _ _ _ _ _ us hl => match us, hl with | [_, _], _ => rfl
  rintro ⟨ms, hm⟩ b ns f cdv A outer s H E hr
  replace hm : Nq5 ms := hm
  have h5 := hm.n5
  have nd := sc_l_odd_part.nd
  refine ss_setD (d := sT (srt ms)) 2 nd (jd_tuple T (d := sL (srt ms)) (jd_sorted T (d := sL ms) (jv 1) (by omega) (.inl rfl)) (.inl rfl)) ?_
  refine ss_ret (P := fun d => ∃ p, Pk T p ∧ d = pD p) (j_any F2 hr (jv 0) (jd_lst (ds := (oddPs ms).map pD) ?_) ?_) fun d h => h
  · refine jac ?_ ?_
    · exact j_non
    refine jac ?_ ?_
    · exact j_int
    refine jac ?_ ?_
    · exact j_bl
    refine jac ?_ ?_
    · exact j_str
    refine jac ?_ ?_
    · exact jd_tup jan
    refine jac ?_ ?_
    · exact jd_lst jan
    refine jac ?_ ?_
    · exact jd_dic1 j_int
    refine jac ?_ ?_
    · refine jd_dic1 ?_
      refine jd_tup ?_
      refine jac ?_ ?_
      · exact j_eq (d2 := sT ((srt ms).take 1)) (jd_slT (ds := (srt ms).map D.str) (jv 2) jon (jos j_int)) (congrArg D.tup (cutD_to (srt ms) 1))
      refine jac ?_ ?_
      · exact jd_tup jan
      exact jan
    refine jac ?_ ?_
    · exact jd_dic1 (jv 2)
    refine jac ?_ ?_
    · exact jv 2
    refine jac ?_ ?_
    · exact j_str
    refine jac ?_ ?_
    · refine jd_tup ?_
      refine jac ?_ ?_
      · exact j_non
      exact jan
    exact jan
  rintro _ rfl
  refine ⟨_, rfl, (by show 1 ≤ 12; decide), (by show 12 ≤ 1000000; decide), fun x hx => ?_⟩
  obtain ⟨p, hp, rfl⟩ := List.mem_map.mp hx
  exact ⟨p, pk_odds T hm p hp, rfl⟩
end
/-! ### a fresh letter -/
def letters8 : Str := "abcdefgh"
theorem pigeon {α : Type} [BEq α] [LawfulBEq α] : ∀ {xs ys : List α}, xs.Nodup → (∀ x ∈ xs, x ∈ ys) → xs.length ≤ ys.length
  | [], _, _, _ => Nat.zero_le _
  | x :: xs, ys, h, hs => by
    have hx := hs x List.mem_cons_self
    have hn := List.nodup_cons.mp h
    have ih := pigeon (xs := xs) (ys := ys.erase x) hn.2 fun z hz => (List.mem_erase_of_ne (fun e : z = x => hn.1 (by rw [← e]; exact hz))).mpr (hs z (List.mem_cons_of_mem _ hz))
    rw [List.length_erase_of_mem hx] at ih
    have : 1 ≤ ys.length := List.length_pos_of_mem hx
    rw [List.length_cons]
    omega
theorem l1_inj {a b : Nat} (h : l1 a = l1 b) : a = b := by
  have := congrArg TL.tl h
  rw [tl_l1, tl_l1] at this
  cases this
  rfl
theorem fresh_ex {ms : List Str} (h5 : ms.length ≤ 5) : ∃ c, (letters8.cps.toList.filter fun c => !decide (l1 c ∈ ms)).take 1 = [c] ∧ l1 c ∉ ms ∧ nm (l1 c) = true := by
  cases e : letters8.cps.toList.filter fun c => !decide (l1 c ∈ ms) with
  | nil =>
    exfalso
    have h1 : ∀ s ∈ letters8.cps.toList.map l1, s ∈ ms := fun s hs => by
      obtain ⟨c, hc, rfl⟩ := List.mem_map.mp hs
      have := List.filter_eq_nil_iff.mp e c hc
      simpa using this
    have h2 : (letters8.cps.toList.map l1).Nodup := by
      refine List.pairwise_map.mpr ?_
      have h3 : letters8.cps.toList.Nodup := by decide
      exact h3.imp fun hab e => hab (l1_inj e)
    have := pigeon h2 h1
    rw [List.length_map] at this
    have h8 : letters8.cps.toList.length = 8 := by decide
    omega
  | cons c t =>
    have hc : c ∈ letters8.cps.toList.filter fun c => !decide (l1 c ∈ ms) := by rw [e]; exact List.mem_cons_self
    obtain ⟨h1, h2⟩ := List.mem_filter.mp hc
    refine ⟨c, rfl, by simpa using h2, ?_⟩
    have h3 : ∀ c ∈ letters8.cps.toList, c ∈ abc.cps.toList := by decide
    refine nm_of (Nat.le_refl 1) (by show 1 ≤ 6; decide) fun x hx => ?_
    rw [tl_l1, List.mem_singleton] at hx
    exact hx ▸ h3 c h1
theorem cutD_d (ds : List D) (k : Nat) : cutD ds none (some (k : Int)) = ds.take k := by
  unfold cutD
  rw [HT.sIx_none, HT.sIx_nat, List.drop_zero, Nat.sub_zero, List.take_eq_take_iff]
  omega
section
variable {P : Program} {w : World} {K : PySem.W.Frag} {mg : Str → Option Value} {base : Heap} (T : Mo K mg)
abbrev s_l_order_part : Stmt := top 171
abbrev N_ordp : List Str := ["_law_bag", "_law_names_here", "_law_left", "_law_road", "_law_x"]
theorem sc_l_order_part : FnScope N_ordp ["_law_bag", "_law_names_here", "_law_left"] (defScope s_l_order_part) := ⟨rfl, rfl, rfl, by decide +kernel, rfl, by decide +kernel, by decide +kernel⟩
abbrev P_l_order_part : Sp := Dro (ι := {p : List Str × List (List Str) // Nq5 p.1 ∧ Pm p.1 p.1.length p.2}) (fun i => [sL i.1.1, .lst (i.1.2.map sT)]) fun i d => ∃ p, Pk T p ∧ d = pD p
theorem Pm.or {ms : List Str} {L : List (List Str)} (h : Pm ms ms.length L) (hm : Nq5 ms) : ∀ o ∈ L, OrOk o := fun o ho => by
  obtain ⟨h1, h2, h3⟩ := h.ok o ho
  exact ⟨⟨fun s hs => hm.n.ok s (h2 s hs), h1⟩, by rw [h3]; exact hm.n0, by rw [h3]; have := hm.n5; omega⟩
theorem F_l_order_part (dn : Dn K mg "_law_order_part" s_l_order_part) (F1 : Fd P w K mg base "_law_pull" 1 P_l_pull) (F2 : Fd P w K mg base "_law_any" 2 SpAny) (F3 : Fd P w K mg base "_law_mixed" 2 P_l_mixed) (F4 : Fd P w K mg base "_law_odd_part" 3 (P_l_odd_part T)) : Fd P w K mg base "_law_order_part" 4 (P_l_order_part T) := by
  refine dn.fd (fun f fd G => fn_dro (k := 3) G sc_l_order_part (fun i => rfl) ?_) fun f fd G => G.binds fun _ _ _ _ _ _ us hl => match us, hl with | [_, _, _], _ => rfl
  rintro ⟨⟨ms, L⟩, hm, hL⟩ b ns f cdv A outer s H E hr
  replace hm : Nq5 ms := hm
  replace hL : Pm ms ms.length L := hL
  have n5 := hm.n5
  have n0 := hm.n0
  have nd := sc_l_order_part.nd
  have hr1 := hr.mono (show 1 ≤ 3 by decide)
  have hr2 := hr.mono (show 2 ≤ 3 by decide)
  have hLz : L.length ≤ 3125 := Nat.le_trans hL.z (Nat.le_trans (Nat.pow_le_pow_right (by decide) n5) (by decide))
  have done : ∀ o, OrOk o → ∃ p, Pk T p ∧ D.dic [("order", sT o)] = pD p := fun o ho => ⟨.ord o, Pk.ord T ho, rfl⟩
  have hdrop : ∀ {X : Cx} {g : Bg} {ρ : List Slot} {e k1 : Expr} {p1 p2 : Pos}, JD X g ρ e (sL ms) → JD X g ρ k1 (.int 1) → JD X g ρ (.Subscript e (.Slice (some k1) none none p1) p2) (sL (ms.drop 1)) := fun h h1 => j_eq (jd_slL (ds := ms.map D.str) h (jos h1) jon) (congrArg D.lst (cutD_from ms 1))
  have nmd : Nms (ms.drop 1) := ⟨fun s hs => hm.n.ok s (List.mem_of_mem_drop hs), (List.drop_sublist 1 ms).nodup hm.n.nd⟩
  have ld : (ms.drop 1).length = ms.length - 1 := List.length_drop
  refine ss_set (P := fun d => ∃ k : Nat, k < 10 ∧ d = .int (k : Nat)) 3 nd (jd_fb F1 ⟨10, by decide, by decide⟩ hr1 (jac (jv 0) (jac j_int jan))) ?_
  rintro _ ⟨rd, _, rfl⟩
  -- an odd one
  refine ss_ifD0 (jt_eqI (jv 3) j_int) (fun _ => ss_ret (jd_fb F4 ⟨ms, hm⟩ hr (jac (jv 0) (jac (jv 1) jan))) fun d h => h) fun _ => ?_
  -- a fresh letter
  refine ss_ifD0 (jt_eqI (jv 3) j_int) (fun _ => ?_) fun _ => ?_
  · obtain ⟨c, hc, hc2, hc3⟩ := fresh_ex (ms := ms) n5
    refine ss_retD (d := .dic [("order", sT (ms.drop 1 ++ [l1 c]))]) (jd_dic1 (j_eq (jd_catT (ds := (ms.drop 1).map D.str) (ds' := [.str (l1 c)]) (jd_tuple T (d := sL (ms.drop 1)) (hdrop (jv 1) j_int) (.inl rfl)) (jd_tuple T (d := .lst [.str (l1 c)]) (j_eq (jd_slL (jd_lc (own := [("_law_x", 4)]) letters8.cps.toList (fun c => D.str ⟨#[c]⟩) (fun c => !decide (l1 c ∈ ms)) (fun c => D.str (l1 c)) rfl nd (blkOk_by (by kernel_rfl)) (ji_str (z := letters8) j_str (by decide)) fun c _ => ⟨_, fun _ _ _ _ _ => jg_name (i := 4) nd rfl (by first | exact Or.inl rfl | exact Or.inr rfl) (by decide), fun _ _ _ _ _ => jf_one (jt_ninS (s := l1 c) (ss := ms) (jv 4) (jv 1) (.inl rfl)), fun _ _ _ _ _ _ => jv 4⟩) jon (jos j_int)) ?_) (.inl rfl)) (by rw [List.length_map, ld, sizeLine_eq]; show ms.length - 1 + 1 ≤ _; omega)) (by show D.tup _ = D.tup ((ms.drop 1 ++ [l1 c]).map D.str); rw [List.map_append]; rfl))) (done _ ⟨⟨fun s hs => ?_, ?_⟩, by rw [List.length_append]; show 1 ≤ _ + 1; omega, by rw [List.length_append, ld]; show _ + 1 ≤ 7; omega⟩)
    · have e := cutD_d ((letters8.cps.toList.filter fun c => !decide (l1 c ∈ ms)).map fun c => D.str (l1 c)) 1
      rw [← List.map_take, hc] at e
      exact congrArg D.lst e
    · rcases List.mem_append.mp hs with h | h
      · exact nmd.ok s h
      · rw [List.mem_singleton] at h
        exact h ▸ hc3
    · refine List.nodup_append.mpr ⟨nmd.nd, by simp, ?_⟩
      rintro x hx y hy rfl
      rw [List.mem_singleton] at hy
      exact hc2 (hy ▸ List.mem_of_mem_drop hx)
  -- one left out
  refine ss_ifD0 (u := decide (((rd : Nat) : Int) = 2) && decide ((1 : Int) < (ms.length : Nat))) (JW.t (jw_and (jt_eqI (jv 3) j_int) fun _ => jw_and1 (jt_gt (j_eq (jd_len T (d := sL ms) (jv 1) (.inl rfl)) (by rw [List.length_map])) j_int))) (fun h => ?_) fun _ => ?_
  · rw [Bool.and_eq_true, decide_eq_true_eq, decide_eq_true_eq] at h
    exact ss_retD (d := .dic [("order", sT (ms.drop 1))]) (jd_dic1 (jd_tuple T (d := sL (ms.drop 1)) (hdrop (jv 1) j_int) (.inl rfl))) (done _ ⟨nmd, by rw [ld]; omega, by rw [ld]; omega⟩)
  -- any order
  refine ss_ifD0 (u := (L.map sT).isEmpty || decide (((rd : Nat) : Int) = 3)) (JW.t (jw_or (jt_eqNil hr.units (jv 2) (Pz.ords fun o ho => ((Pm.or hL hm) o ho).n.sok)) fun _ => jw_or1 (jt_eqI (jv 3) j_int))) (fun _ => ?_) fun h => ?_
  · refine ss_ret (P := fun d => ∃ p, Pk T p ∧ d = pD p) (jp_dic1 (P1 := fun d => ∃ zs : List Str, zs.Perm ms ∧ d = sT zs) (kx := .Name "x" ⟨0, 0, 0, 0⟩) (jp_tuple T (P1 := fun d => ∃ es : List D, es.Perm (ms.map D.str) ∧ d = .lst es) (jd_fb F3 ⟨ms.map D.str, by rw [List.length_map]; omega⟩ hr2 (jac (jv 0) (jac (jv 1) jan))) ?_) ?_) fun d h => h
    · rintro _ ⟨es, hp, rfl⟩
      obtain ⟨zs, hz, rfl⟩ := perm_strs hp
      exact ⟨_, .inl rfl, zs, hz, rfl⟩
    · rintro _ ⟨zs, hz, rfl⟩
      exact done zs ⟨hm.n.perm hz, by rw [hz.length_eq]; exact n0, by rw [hz.length_eq]; omega⟩
  · rw [Bool.or_eq_false_iff] at h
    have h1 : 1 ≤ (L.map sT).length := by
      cases e : L.map sT with
      | nil => rw [e] at h; cases h.1
      | cons a t => rw [List.length_cons]; omega
    refine ss_ret (P := fun d => ∃ p, Pk T p ∧ d = pD p) (jp_dic1 (P1 := fun d => ∃ o, OrOk o ∧ d = sT o) (kx := .Name "x" ⟨0, 0, 0, 0⟩) (j_any (P1 := fun d => d = .lst (L.map sT)) F2 hr2 (jv 0) (jv 2) ?_) ?_) fun d h => h
    · rintro _ rfl
      refine ⟨_, rfl, h1, by rw [List.length_map]; omega, fun x hx => ?_⟩
      obtain ⟨o, ho, rfl⟩ := List.mem_map.mp hx
      exact ⟨o, Pm.or hL hm o ho, rfl⟩
    · rintro _ ⟨o, ho, rfl⟩
      exact done o ho
end
end FD
end
section
set_option maxHeartbeats 2000000
/-! drawn parts: lots -/
namespace FD
open PySem PySem.Spec PyProof.Rows L2
section
variable {X : Cx} {g : Bg} {ρ : List Slot} {e a b : Expr} {P1 P2 : D → Prop} {pos p p2 px py pt pt2 : Pos} {x y : Str} {rest : List Stmt} {po : Po} {kt k2 : Nat}
/-- a, b = e, list(e2): the second of one's own -/
theorem ss_parOwn (i j : Nat) (hc : X.calm = true) (hN : X.N.Nodup) (T : Mo X.K X.mg) (ha : J X g ρ a P1) (hb : J X g ρ e P2) (k : ∀ d1 d2, P1 d1 → P2 d2 → ∃ ds, Sq d2 ds ∧ SS X g po ((ρ.set i (.ro d1)).set j (.own ds)) rest) (hi : X.N[i]? = some x := by rfl) (hj : X.N[j]? = some y := by rfl) (hij : i ≠ j := by decide)
    (hx : X.env.scope.names.lookup x = some .local := by rfl) (hy : X.env.scope.names.lookup y = some .local := by rfl) (hg : Gl X "list" := by rfl) (hst : starEach [e] X.env = (false, eval e X.env) :: starEach [] X.env := by rfl)
    (he : starEach [a, .Call (.Name "list" p) [e] [] p2] X.env = (false, eval a X.env) :: starEach [.Call (.Name "list" p) [e] [] p2] X.env := by rfl) (he2 : starEach [.Call (.Name "list" p) [e] [] p2] X.env = (false, eval (.Call (.Name "list" p) [e] [] p2) X.env) :: starEach [] X.env := by rfl)
    (hw : swappedStores [.Tuple [.Name x px, .Name y py] kt pt] (.Tuple [a, .Call (.Name "list" p) [e] [] p2] k2 pt2) X.env = pure (some [x, y]) := by rfl)
    (hs : swapsWithSole [.Tuple [.Name x px, .Name y py] kt pt] (.Tuple [a, .Call (.Name "list" p) [e] [] p2] k2 pt2) pos.line X.env = pure false := by rfl) : SS X g po ρ (.Assign [.Tuple [.Name x px, .Name y py] kt pt] (.Tuple [a, .Call (.Name "list" p) [e] [] p2] k2 pt2) pos :: rest) :=
  ss_s1 (ps_par hc hN hi hj hij hx hy (pa_cons pe_W (pa_cons (pe_callTy call_list_of hg T.list bt_list (pa_cons pe_W pa_nil hst) (he := hst)) pa_nil he2) he) hw hs) fun B σ M H D E O K => ha.at_ E fun d1 v1 M1 H1 p1 E1 s1 i1 => hb.at_ E1 fun d2 v2 M2 H2 p2 E2 s2 i2 => by
    obtain ⟨ds, hq, h⟩ := k d1 d2 p1 p2
    obtain ⟨a, vs, rfl, il, hx⟩ := E2.at_.sq (X := X) i2 hq
    have E3 := E2.ro i (i1.mono s2.mm)
    exact ⟨a, vs, rfl, hx, fun q hq => ⟨v1, .ref q, rfl, K _ _ M2 _ h (s1.mm.trans s2.mm) (E3.newOwn j hq rfl ⟨q, vs, rfl, E3.fresh hq, E3.at_.freeM hq, upd_same, il⟩)⟩⟩
end
/-- names that may stand in a lot -/
structure Sk (ss : List Str) : Prop where
  l : ss.length ≤ 40
  s : ∀ s ∈ ss, nm s = true
theorem Sk.pk {K : PySem.W.Frag} {mg : Str → Option Value} (T : Mo K mg) {ss : List Str} (h : Sk ss) (t : Bool) : Pk T (.seq t (ss.map D.str)) := Pk.strs T t (by have := h.l; omega) fun s hs => Nat.le_trans (nm_len (h.s s hs)) (by decide)
theorem isStr_all {ss : List Str} : SOk ss → Pz (ss.map D.str) := Pz.strs
def oddLots (zs : List Str) : List Pa := [.non, .seq false (zs.map D.str), .str "", .int 0, .dic, .seq true [.str "Q"], .seq true (zs.map D.str ++ [.str "sevenxx"]), .seq true [.non], .seq true [.tup []]]
section
variable {P : Program} {w : World} {K : PySem.W.Frag} {mg : Str → Option Value} {base : Heap} (T : Mo K mg)
theorem pk_oddLots {zs : List Str} (h : Sk zs) : ∀ p ∈ oddLots zs, Pk T p := by
  have hl := h.l
  intro p hp
  simp only [oddLots, List.mem_cons, List.not_mem_nil, or_false] at hp
  rcases hp with rfl | rfl | rfl | rfl | rfl | rfl | rfl | rfl | rfl
  · exact Pk.flat T trivial (fun _ _ e => nomatch e) fun _ e => nomatch e
  · exact h.pk T false
  · exact Pk.word T (by decide) (by decide)
  · exact Pk.flat T trivial (fun _ _ e => nomatch e) fun _ e => nomatch e
  · exact Pk.flat T trivial (fun _ _ e => nomatch e) fun _ e => nomatch e
  · exact Pk.strs T (ss := ["Q"]) true (by decide) (by decide)
  · have e : zs.map D.str ++ [.str "sevenxx"] = (zs ++ [("sevenxx" : Str)]).map D.str := by rw [List.map_append]; rfl
    rw [e]
    refine Pk.strs T true (by rw [List.length_append]; show zs.length + 1 < 64; omega) fun s hs => ?_
    rcases List.mem_append.mp hs with hs | hs
    · exact Nat.le_trans (nm_len (h.s s hs)) (by decide)
    · rw [List.mem_singleton] at hs
      subst hs
      decide
  · exact ⟨⟨by decide, fun e he => by rw [List.mem_singleton] at he; subst he; exact ⟨⟨_, rfl⟩, by decide, rfl⟩⟩, by show [D.non].length < 64; decide, (fun _ e => nomatch e), fun t its e x hx => by cases e; rw [List.mem_singleton] at hx; subst hx; exact .inl rfl⟩
  · exact ⟨⟨by decide, fun e he => by rw [List.mem_singleton] at he; subst he; exact ⟨⟨_, rfl⟩, by decide, rfl⟩⟩, by show [D.tup []].length < 64; decide, (fun _ e => nomatch e), fun t its e x hx => by cases e; rw [List.mem_singleton] at hx; subst hx; exact .inr rfl⟩
abbrev s_l_lot_part : Stmt := top 172
abbrev N_lotp : List Str := ["_law_bag", "_law_marks", "_law_lot", "_law_road", "_law_late", "_law_more", "_law_x"]
theorem sc_l_lot_part : FnScope N_lotp ["_law_bag", "_law_marks", "_law_lot"] (defScope s_l_lot_part) := ⟨rfl, rfl, rfl, by decide +kernel, rfl, by decide +kernel, by decide +kernel⟩
abbrev P_l_lot_part : Sp := Dro (ι := {p : List Str × List Str // Sk p.1 ∧ Sk p.2}) (fun i => [sL i.1.1, sT i.1.2]) fun i d => ∃ p, Pk T p ∧ d = pD p
theorem Sk.sok {ss : List Str} (h : Sk ss) : SOk ss := fun s hs => nm_ok (h.s s hs)
theorem er_map {α β : Type} (f : α → β) : ∀ (l : List α) (k : Nat), (l.map f).eraseIdx k = (l.eraseIdx k).map f
  | [], _ => rfl
  | _ :: _, 0 => rfl
  | a :: t, k + 1 => congrArg (f a :: ·) (er_map f t k)
theorem cutD_last (ds : List D) : ∃ es : List D, cutD ds (some (-1)) none = es ∧ es.Sublist ds ∧ es.length ≤ 1 := by
  refine ⟨_, rfl, ?_, ?_⟩
  · unfold cutD
    exact (List.take_sublist _ _).trans (List.drop_sublist _ _)
  · unfold cutD
    rw [HT.sIx_none, List.length_take, List.length_drop]
    have e : HT.sIx ds.length 0 (some (-1)) = ds.length - 1 := by
      show (if (-1 : Int) < 0 then ((-1 : Int) + (ds.length : Int)).toNat else min ((-1 : Int).toNat) ds.length) = _
      rw [if_pos (by decide)]
      omega
    rw [e]
    omega
theorem F_l_lot_part (dn : Dn K mg "_law_lot_part" s_l_lot_part) (F1 : Fd P w K mg base "_law_pull" 1 P_l_pull) (F2 : Fd P w K mg base "_law_any" 2 SpAny) : Fd P w K mg base "_law_lot_part" 3 (P_l_lot_part T) := by
  refine dn.fd (fun f fd G => fn_dro (k := 2) G sc_l_lot_part (fun i => rfl) ?_) fun f fd G => G.binds fun _ _ _ _ _ _ us hl => match us, hl with | [_, _, _], _ => rfl
  rintro ⟨⟨ms, zs⟩, hm, hz⟩ b ns f cdv A outer s H E hr
  replace hm : Sk ms := hm
  replace hz : Sk zs := hz
  have ml := hm.l
  have zl := hz.l
  have nd := sc_l_lot_part.nd
  have hr1 := hr.mono (show 1 ≤ 2 by decide)
  refine ss_parOwn (P1 := fun d => ∃ k : Nat, k < 12 ∧ d = .int (k : Nat)) (P2 := fun d => d = sT zs) 3 4 rfl nd T (jd_fb F1 ⟨12, by decide, by decide⟩ hr1 (jac (jv 0) (jac j_int jan))) (jv 2) ?_
  rintro _ _ ⟨rd, _, rfl⟩ rfl
  refine ⟨zs.map D.str, .inr rfl, ?_⟩
  -- odd ones
  refine ss_ifD0 (jt_eqI (jv 3) j_int) (fun _ => ?_) fun _ => ?_
  · refine ss_ret (P := fun d => ∃ p, Pk T p ∧ d = pD p) (j_any F2 hr (jv 0) (jd_lst (ds := (oddLots zs).map pD) ?_) ?_) fun d h => h
    · refine jac ?_ ?_
      · exact j_non
      refine jac ?_ ?_
      · exact jd_list T (d := sT zs) (jv 2) (.inr rfl)
      refine jac ?_ ?_
      · exact j_str
      refine jac ?_ ?_
      · exact j_int
      refine jac ?_ ?_
      · exact jd_dic1 j_int
      refine jac ?_ ?_
      · refine jd_tup ?_
        refine jac ?_ ?_
        · exact j_str
        exact jan
      refine jac ?_ ?_
      · refine jd_catT (ds := zs.map D.str) (ds' := [.str "sevenxx"]) (jd_tuple T (d := sT zs) (jv 2) (.inr rfl)) ?_ (by rw [List.length_map, sizeLine_eq]; show _ + 1 ≤ _; omega)
        refine jd_tup ?_
        refine jac ?_ ?_
        · exact j_str
        exact jan
      refine jac ?_ ?_
      · refine jd_tup ?_
        refine jac ?_ ?_
        · exact j_non
        exact jan
      refine jac ?_ ?_
      · refine jd_tup ?_
        refine jac ?_ ?_
        · exact jd_tup jan
        exact jan
      exact jan
    · rintro _ rfl
      refine ⟨_, rfl, (by show 1 ≤ 9; decide), (by show 9 ≤ 1000000; decide), fun x hx => ?_⟩
      obtain ⟨p, hp, rfl⟩ := List.mem_map.mp hx
      exact ⟨p, pk_oddLots T hz p hp, rfl⟩
  -- the ends
  have fin : ∀ (us : List Str) (t1 t2 : Slot), us.length ≤ 63 → (∀ s ∈ us, nm s = true) → SS (Xc P w K mg base N_lotp "_law_lot_part" s_l_lot_part f cdv A outer s H E) (some (b, ns)) (poOf fun d => ∃ p, Pk T p ∧ d = pD p) [.ro (.adr b), .ro (sL ms), .ro (sT zs), .ro (.int (rd : Nat)), .ro (sL us), t1, t2] ((defBody s_l_lot_part).drop 6) := fun us t1 t2 hl hn => by
    exact ss_ret (P := fun d => d = sT us) (jd_tuple T (d := sL us) (jv 4) (.inl rfl)) fun d h => ⟨.seq true (us.map D.str), Pk.strs T true (by omega) fun s hs => Nat.le_trans (nm_len (hn s hs)) (by decide), h⟩
  have tail5 : ∀ (us : List Str) (t1 t2 : Slot), Sk us → SS (Xc P w K mg base N_lotp "_law_lot_part" s_l_lot_part f cdv A outer s H E) (some (b, ns)) (poOf fun d => ∃ p, Pk T p ∧ d = pD p) [.ro (.adr b), .ro (sL ms), .ro (sT zs), .ro (.int (rd : Nat)), .ro (sL us), t1, t2] ((defBody s_l_lot_part).drop 5) := fun us t1 t2 hu => by
    have ul := hu.l
    refine ss_ifD0 (jt_eqI (jv 3) j_int) (fun _ => ?_) fun _ => fin us _ _ (by omega) hu.s
    obtain ⟨es, he, hs, hl⟩ := cutD_last (us.map D.str)
    have hall : es.all D.isStr = true := List.all_eq_true.mpr fun e hx => by
      obtain ⟨s, _, rfl⟩ := List.mem_map.mp (hs.subset hx)
      rfl
    have e2 := all_strs hall
    have hmem : ∀ s ∈ es.map D.txt, nm s = true := fun s hx => by
      obtain ⟨e, he, rfl⟩ := List.mem_map.mp hx
      obtain ⟨s, hs2, rfl⟩ := List.mem_map.mp (hs.subset he)
      exact hu.s s hs2
    refine ss_setD (d := sL (us ++ es.map D.txt)) 4 nd (j_eq (jd_catL (ds := us.map D.str) (ds' := es) (jv 4) (j_eq (jd_slL (ds := us.map D.str) (jv 4) (jos (jd_neg j_int)) jon) (by rw [he])) (by rw [List.length_map, sizeLine_eq]; omega)) (by show D.lst _ = D.lst ((us ++ es.map D.txt).map D.str); rw [List.map_append, ← e2])) ?_
    refine ss_nil (fin _ _ _ ?_ fun s hx => ?_)
    · rw [List.length_append, List.length_map]; omega
    · rcases List.mem_append.mp hx with h | h
      · exact hu.s s h
      · exact hmem s h
  have tail4 : ∀ (us : List Str) (t1 t2 : Slot), Sk us → SS (Xc P w K mg base N_lotp "_law_lot_part" s_l_lot_part f cdv A outer s H E) (some (b, ns)) (poOf fun d => ∃ p, Pk T p ∧ d = pD p) [.ro (.adr b), .ro (sL ms), .ro (sT zs), .ro (.int (rd : Nat)), .own (us.map D.str), t1, t2] ((defBody s_l_lot_part).drop 4) := fun us t1 t2 hu => by
    refine ss_frz 4 rfl ?_
    refine ss_ifD0 (jt_eqI (jv 3) j_int) (fun _ => ?_) fun _ => tail5 us _ _ hu
    refine ss_set (P := fun d => d = sL us.reverse) 4 nd (jp_back (P1 := fun d => d = sL us) (jv 4) ?_) ?_
    · rintro _ rfl
      exact .inl ⟨us.map D.str, rfl, by rw [← List.map_reverse]; rfl⟩
    · rintro _ rfl
      exact ss_nil (tail5 us.reverse _ _ ⟨by rw [List.length_reverse]; exact hu.l, fun s hs => hu.s s (List.mem_reverse.mp hs)⟩)
  have tail3 : ∀ (us : List Str) (t1 t2 : Slot), Sk us → SS (Xc P w K mg base N_lotp "_law_lot_part" s_l_lot_part f cdv A outer s H E) (some (b, ns)) (poOf fun d => ∃ p, Pk T p ∧ d = pD p) [.ro (.adr b), .ro (sL ms), .ro (sT zs), .ro (.int (rd : Nat)), .own (us.map D.str), t1, t2] ((defBody s_l_lot_part).drop 3) := fun us t1 t2 hu => by
    refine ss_ifD0 (u := (decide (((rd : Nat) : Int) = 2) || decide (((rd : Nat) : Int) = 3)) && (!(ms.map D.str).isEmpty)) (JW.t (jw_and (jt_inI2 (jv 3) (jd_tup (jac j_int (jac j_int jan)))) fun _ => jw_and1 (jt_neNil hr.units (jv 1) (Pz.strs hm.sok)))) (fun h => ?_) fun _ => tail4 us _ _ hu
    rw [Bool.and_eq_true] at h
    have hne : 1 ≤ (ms.map D.str).length := by
      have h2 := h.2
      cases e : ms.map D.str with
      | nil => rw [e] at h2; cases h2
      | cons a t => rw [List.length_cons]; omega
    refine ss_set (P := fun d => ∃ m ∈ ms, d = .str m) 5 nd (j_any (P1 := fun d => d = sL ms) F2 hr (jv 0) (jv 1) ?_) ?_
    · rintro _ rfl
      refine ⟨_, rfl, hne, by rw [List.length_map]; omega, fun x hx => ?_⟩
      obtain ⟨m, hm2, rfl⟩ := List.mem_map.mp hx
      exact ⟨m, hm2, rfl⟩
    rintro _ ⟨mo, hmo, rfl⟩
    refine ss_setLcD 4 (own := [("_law_x", 6)]) ms D.str (fun x => decide (x ∈ zs) || decide (x = mo)) D.str rfl nd (blkOk_by (by kernel_rfl)) (ji (ds := ms.map D.str) (jv 1) (by rw [List.length_map]; omega) (.inl rfl)) (fun x _ => ⟨_, fun _ _ _ _ _ => jg_name (i := 6) nd rfl (by first | exact Or.inl rfl | exact Or.inr rfl) (by decide), fun _ _ _ _ _ => jf_one (JW.t (jw_or (jt_inS (ss := zs) (jv 6) (jv 2) (.inr rfl)) fun _ => jw_or1 (jt_eqS (jv 6) (jv 5)))), fun _ _ _ _ _ _ => jv 6⟩) ?_
    refine ss_nil (tail4 _ _ _ ⟨Nat.le_trans (List.length_filter_le _ _) ml, fun s hs => hm.s s (List.mem_filter.mp hs).1⟩)
  -- one left out
  refine ss_ifD0 (u := decide (((rd : Nat) : Int) = 1) && (!(zs.map D.str).isEmpty)) (JW.t (jw_and (jt_eqI (jv 3) j_int) fun _ => jw_and1 (jt_own 4 (jt_neNil hr.units (jv 4) (Pz.strs hz.sok))))) (fun h => ?_) fun _ => tail3 zs _ _ hz
  rw [Bool.and_eq_true] at h
  have hne : 1 ≤ zs.length := by
    have h2 := h.2
    cases e : zs with
    | nil => rw [e] at h2; cases h2
    | cons a t => rw [List.length_cons]; omega
  refine ss_pop (P1 := fun d => ∃ k : Nat, k < zs.length ∧ d = .int (k : Nat)) 4 (jd_fb F1 ⟨zs.length, hne, by omega⟩ hr1 (jac (jv 0) (jac (j_eq (j_own 4 (jd_len T (d := sL zs) (jv 4) (.inl rfl)) (by rintro _ rfl; rfl)) (by rw [List.length_map])) jan))) rfl (by rw [List.length_map, sizeLine_eq]; omega) ?_
  rintro _ ⟨k, hk, rfl⟩
  refine ⟨k, rfl, by rw [List.length_map]; exact hk, ss_nil ?_⟩
  have e : (zs.map D.str).eraseIdx k = (zs.eraseIdx k).map D.str := er_map _ _ _
  rw [e]
  exact tail3 _ _ _ ⟨Nat.le_trans (List.eraseIdx_sublist zs k).length_le zl, fun s hs => hz.s s ((List.eraseIdx_sublist zs k).subset hs)⟩
end
end FD
end
section
set_option maxHeartbeats 2000000
/-! drawn parts: rows -/
namespace FD
open PySem PySem.Spec PyProof.Rows L2
theorem nodup_app1 {α : Type} {l : List α} {x : α} (h : l.Nodup) (hx : x ∉ l) : (l ++ [x]).Nodup := by
  refine List.nodup_append.mpr ⟨h, by simp, ?_⟩
  rintro a ha b hb rfl
  rw [List.mem_singleton] at hb
  exact hx (hb ▸ ha)
theorem Nms.app1 {ss : List Str} {s : Str} (h : Nms ss) (hs : nm s = true) (hx : s ∉ ss) : Nms (ss ++ [s]) := ⟨fun z hz => by
  rcases List.mem_append.mp hz with h1 | h1
  · exact h.ok z h1
  · rw [List.mem_singleton] at h1
    exact h1 ▸ hs, nodup_app1 h.nd hx⟩
theorem Nms.sub {ss zs : List Str} (h : Nms ss) (s : zs.Sublist ss) : Nms zs := ⟨fun z hz => h.ok z (s.subset hz), s.nodup h.nd⟩
theorem ne_filter_not {α : Type} [DecidableEq α] {x : α} {l : List α} : x ∉ l.filter fun y => !decide (y = x) := fun h => by
  have := (List.mem_filter.mp h).2
  simp at this
section
variable {P : Program} {w : World} {K : PySem.W.Frag} {mg : Str → Option Value} {base : Heap} (T : Mo K mg)
abbrev s_l_row_part : Stmt := top 176
abbrev N_rowp : List Str := ["_law_bag", "_law_names_here", "_law_row_here", "_law_road", "_law_x", "_law_fresh", "_law_k", "_law_pro", "_law_con", "_law_y"]
theorem sc_l_row_part : FnScope N_rowp ["_law_bag", "_law_names_here", "_law_row_here"] (defScope s_l_row_part) := ⟨rfl, rfl, rfl, by decide +kernel, rfl, by decide +kernel, by decide +kernel⟩
abbrev P_l_row_part : Sp := Dro (ι := {p : List Str × Rw // Nq5 p.1 ∧ Rq p.1 p.2}) (fun i => [sL i.1.1, prD i.1.2]) fun i d => ∃ p, Pk T p ∧ d = pD p
theorem F_l_row_part (dn : Dn K mg "_law_row_part" s_l_row_part) (F1 : Fd P w K mg base "_law_pull" 1 P_l_pull) (F2 : Fd P w K mg base "_law_any" 2 SpAny) (F4 : Fd P w K mg base "_law_odd_part" 3 (P_l_odd_part T)) : Fd P w K mg base "_law_row_part" 4 (P_l_row_part T) := by
  refine dn.fd (fun f fd G => fn_dro (k := 3) G sc_l_row_part (fun i => rfl) ?_) fun f fd G => G.binds fun _ _ _ _ _ _ us hl => match us, hl with | [_, _, _], _ => rfl
  rintro ⟨⟨ms, r⟩, hm, hq⟩ b ns f cdv A outer s H E hr
  replace hm : Nq5 ms := hm
  replace hq : Rq ms r := hq
  have n5 := hm.n5
  have n0 := hm.n0
  have hl1 := hq.l1
  have hl2 := hq.l2
  have hs1 : srt r.1 = r.1 := congrArg Prod.fst hq.so
  have hs2 : srt r.2 = r.2 := congrArg Prod.snd hq.so
  have nd := sc_l_row_part.nd
  have hr1 := hr.mono (show 1 ≤ 3 by decide)
  have hr2 := hr.mono (show 2 ≤ 3 by decide)
  have done : ∀ r' : Rw, RwOk r' → rowS r' = r' → ∃ p, Pk T p ∧ D.dic [("row", prD r')] = pD p := fun r' h1 h2 => ⟨.row r', Pk.row T h1 h2, rfl⟩
  refine ss_asg [3, 4] (P := fun d => ∃ rd : Nat, ∃ x ∈ ms, d = .tup [.int (rd : Nat), .str x]) (jp_tup (ja_cons (P := fun d => ∃ k : Nat, k < 12 ∧ d = .int (k : Nat)) (jd_fb F1 ⟨12, by decide, by decide⟩ hr1 (jac (jv 0) (jac j_int jan))) (ja_cons (P := fun d => ∃ x ∈ ms, d = .str x) (j_any (P1 := fun d => d = sL ms) F2 hr2 (jv 0) (jv 1) ?_) ja_nil)) ?_) ?_
  · rintro _ rfl
    refine ⟨_, rfl, by rw [List.length_map]; exact n0, by rw [List.length_map]; omega, fun x hx => ?_⟩
    obtain ⟨m, hm2, rfl⟩ := List.mem_map.mp hx
    exact ⟨m, hm2, rfl⟩
  · rintro _ ⟨_, _, rfl, ⟨rd, _, rfl⟩, _, _, rfl, ⟨x, hx, rfl⟩, rfl⟩
    exact ⟨by show 2 ≤ sizeLine; decide, rd, x, hx, rfl⟩
  rintro _ ⟨rd, x, hx, rfl⟩
  refine ⟨_, jg_two (i := 3) (j := 4) rfl nd rfl (by first | exact Or.inl rfl | exact Or.inr rfl) rfl (by first | exact Or.inl rfl | exact Or.inr rfl) (by decide) (by decide) rfl, ?_⟩
  -- an odd one
  refine ss_ifD0 (jt_eqI (jv 3) j_int) (fun _ => ss_ret (jd_fb F4 ⟨ms, hm⟩ hr (jac (jv 0) (jac (jv 1) jan))) fun d h => h) fun _ => ?_
  -- a fresh letter
  refine ss_ifD0 (jt_eqI (jv 3) j_int) (fun _ => ?_) fun _ => ?_
  · obtain ⟨c, hc, hc2, hc3⟩ := fresh_ex (ms := ms) n5
    have hc4 : l1 c ∉ r.2 := fun h => hc2 (hq.cov _ (.inr h))
    have hc5 : l1 c ∉ r.1 := fun h => hc2 (hq.cov _ (.inl h))
    refine ss_setD (d := .tup [.str (l1 c)]) 5 nd (jd_tuple T (d := .lst [.str (l1 c)]) (j_eq (jd_slL (jd_lc (own := [("_law_y", 9)]) letters8.cps.toList (fun c => D.str ⟨#[c]⟩) (fun c => !decide (l1 c ∈ ms)) (fun c => D.str (l1 c)) rfl nd (blkOk_by (by kernel_rfl)) (ji_str (z := letters8) j_str (by decide)) fun c _ => ⟨_, fun _ _ _ _ _ => jg_name (i := 9) nd rfl (by first | exact Or.inl rfl | exact Or.inr rfl) (by decide), fun _ _ _ _ _ => jf_one (jt_ninS (s := l1 c) (ss := ms) (jv 9) (jv 1) (.inl rfl)), fun _ _ _ _ _ _ => jv 9⟩) jon (jos j_int)) ?_) (.inl rfl)) ?_
    · have e := cutD_d ((letters8.cps.toList.filter fun c => !decide (l1 c ∈ ms)).map fun c => D.str (l1 c)) 1
      rw [← List.map_take, hc] at e
      exact congrArg D.lst e
    have hlen : (r.2 ++ [l1 c]).length ≤ 6 := by rw [List.length_append]; show _ + 1 ≤ 6; omega
    refine ss_retD (d := .dic [("row", prD (r.1, srt (r.2 ++ [l1 c])))]) ?_ (done _ ⟨hq.ok.p, srt_nms (hq.ok.c.app1 hc3 hc4), fun s h1 h2 => ?_, hq.ok.f1, by show (srt (r.2 ++ [l1 c])).length ≤ 8; rw [srt_len]; omega⟩ ?_)
    · refine jd_dic1 ?_
      refine jd_tup ?_
      refine jac ?_ ?_
      · exact jd_ix (d1 := prD r) (jv 2) j_int at0 (.inr rfl)
      refine jac ?_ ?_
      · refine jd_tuple T (d := sL (srt (r.2 ++ [l1 c]))) ?_ (.inl rfl)
        refine jd_sorted T (d := sT (r.2 ++ [l1 c])) ?_ (by omega) (.inr rfl)
        refine j_eq (jd_catT (ds := r.2.map D.str) (ds' := [.str (l1 c)]) (jd_ix (d1 := prD r) (jv 2) j_int at1 (.inr rfl)) (jv 5) (by rw [List.length_map, sizeLine_eq]; show _ + 1 ≤ _; omega)) ?_
        show D.tup _ = D.tup ((r.2 ++ [l1 c]).map D.str)
        rw [List.map_append]
        rfl
      exact jan
    · rcases List.mem_append.mp (srt_mem.mp h2) with h | h
      · exact hq.ok.ap s h1 h
      · rw [List.mem_singleton] at h
        exact hc5 (h ▸ h1)
    · show (srt r.1, srt (srt (r.2 ++ [l1 c]))) = _
      rw [srt_srt, hs1]
  -- turned
  refine ss_ifD0 (jt_eqI (jv 3) j_int) (fun _ => ?_) fun _ => ?_
  · refine ss_retD (d := .dic [("row", prD (r.2, r.1))]) ?_ (done _ hq.turn.ok hq.turn.so)
    refine jd_dic1 ?_
    refine jp_back (P1 := fun d => d = prD r) (jv 2) ?_
    rintro _ rfl
    exact .inr ⟨_, _, rfl, rfl⟩
  -- made for or against
  refine ss_ifD0 (jt_inI2 (jv 3) (jd_tup (jac j_int (jac j_int jan)))) (fun _ => ?_) fun _ => ?_
  · have hside : ∀ {X : Cx} {ρ : List Slot} {pos px p : Pos} {ss : List Str}, ss.length ≤ 5 → True := fun _ => trivial
    refine ss_par (P1 := fun d => d = sL (r.1.filter fun y => !decide (y = x))) (P2 := fun d => d = sL (r.2.filter fun y => !decide (y = x))) 7 8 rfl nd ?_ ?_ ?_
    · exact jd_lc (own := [("_law_y", 9)]) r.1 D.str (fun y => !decide (y = x)) D.str rfl nd (blkOk_by (by kernel_rfl)) (ji (ds := r.1.map D.str) (jd_ix (d1 := prD r) (jv 2) j_int at0 (.inr rfl)) (by rw [List.length_map]; omega) (.inr rfl)) fun y _ => ⟨_, fun _ _ _ _ _ => jg_name (i := 9) nd rfl (by first | exact Or.inl rfl | exact Or.inr rfl) (by decide), fun _ _ _ _ _ => jf_one (jt_neS (jv 9) (jv 4)), fun _ _ _ _ _ _ => jv 9⟩
    · exact jd_lc (own := [("_law_y", 9)]) r.2 D.str (fun y => !decide (y = x)) D.str rfl nd (blkOk_by (by kernel_rfl)) (ji (ds := r.2.map D.str) (jd_ix (d1 := prD r) (jv 2) j_int at1 (.inr rfl)) (by rw [List.length_map]; omega) (.inr rfl)) fun y _ => ⟨_, fun _ _ _ _ _ => jg_name (i := 9) nd rfl (by first | exact Or.inl rfl | exact Or.inr rfl) (by decide), fun _ _ _ _ _ => jf_one (jt_neS (jv 9) (jv 4)), fun _ _ _ _ _ _ => jv 9⟩
    rintro _ _ rfl rfl
    obtain ⟨p, hp⟩ : ∃ p, p = r.1.filter fun y => !decide (y = x) := ⟨_, rfl⟩
    obtain ⟨c, hc⟩ : ∃ c, c = r.2.filter fun y => !decide (y = x) := ⟨_, rfl⟩
    have sp : p.Sublist r.1 := by rw [hp]; exact List.filter_sublist
    have sc : c.Sublist r.2 := by rw [hc]; exact List.filter_sublist
    have xp : x ∉ p := by rw [hp]; exact ne_filter_not
    have xc : x ∉ c := by rw [hc]; exact ne_filter_not
    rw [← hp, ← hc]
    have lp := sp.length_le
    have lc := sc.length_le
    have hxn := hm.n.ok x hx
    have ap : ∀ s ∈ p, s ∉ c := fun s h1 h2 => hq.ok.ap s (sp.subset h1) (sc.subset h2)
    have lp1 : (p ++ [x]).length ≤ 6 := by rw [List.length_append]; show _ + 1 ≤ 6; omega
    have lc1 : (c ++ [x]).length ≤ 6 := by rw [List.length_append]; show _ + 1 ≤ 6; omega
    have d1 := done (srt (p ++ [x]), c) ⟨srt_nms ((hq.ok.p.sub sp).app1 hxn xp), hq.ok.c.sub sc, fun s h1 h2 => by
      rcases List.mem_append.mp (srt_mem.mp h1) with h | h
      · exact ap s h h2
      · rw [List.mem_singleton] at h
        exact xc (h ▸ h2), by show (srt (p ++ [x])).length ≤ 8; rw [srt_len]; omega, by show c.length ≤ 8; omega⟩ (by show (srt (srt (p ++ [x])), srt c) = _; rw [srt_srt, srt_sub sc hs2])
    have d2 := done (p, srt (c ++ [x])) ⟨hq.ok.p.sub sp, srt_nms ((hq.ok.c.sub sc).app1 hxn xc), fun s h1 h2 => by
      rcases List.mem_append.mp (srt_mem.mp h2) with h | h
      · exact ap s h1 h
      · rw [List.mem_singleton] at h
        exact xp (h ▸ h1), by show p.length ≤ 8; omega, by show (srt (c ++ [x])).length ≤ 8; rw [srt_len]; omega⟩ (by show (srt p, srt (srt (c ++ [x]))) = _; rw [srt_srt, srt_sub sp hs1])
    have happ : ∀ (zs : List Str), D.lst (zs.map D.str ++ [.str x]) = sL (zs ++ [x]) := fun zs => by
      unfold sL
      rw [List.map_append]
      rfl
    refine ss_ret (P := fun d => ∃ p, Pk T p ∧ d = pD p) (jp_dic1 (P1 := fun d => d = prD (srt (p ++ [x]), c) ∨ d = prD (p, srt (c ++ [x]))) (kx := .Name "x" ⟨0, 0, 0, 0⟩) (j_if (jt_eqI (jv 3) j_int) (fun _ => ?_) fun _ => ?_) ?_) fun d h => h
    · refine J.imp (P := fun d => d = prD (srt (p ++ [x]), c)) ?_ fun d h => .inl h
      refine jd_tup ?_
      refine jac ?_ ?_
      · refine jd_tuple T (d := sL (srt (p ++ [x]))) ?_ (.inl rfl)
        refine jd_sorted T (d := sL (p ++ [x])) ?_ (by omega) (.inl rfl)
        refine j_eq (jd_catL (ds := p.map D.str) (ds' := [.str x]) (jv 7) ?_ (by rw [List.length_map, sizeLine_eq]; show _ + 1 ≤ _; omega)) (happ p)
        refine jd_lst ?_
        exact jac (jv 4) jan
      refine jac ?_ ?_
      · exact jd_tuple T (d := sL c) (jv 8) (.inl rfl)
      exact jan
    · refine J.imp (P := fun d => d = prD (p, srt (c ++ [x]))) ?_ fun d h => .inr h
      refine jd_tup ?_
      refine jac ?_ ?_
      · exact jd_tuple T (d := sL p) (jv 7) (.inl rfl)
      refine jac ?_ ?_
      · refine jd_tuple T (d := sL (srt (c ++ [x]))) ?_ (.inl rfl)
        refine jd_sorted T (d := sL (c ++ [x])) ?_ (by omega) (.inl rfl)
        refine j_eq (jd_catL (ds := c.map D.str) (ds' := [.str x]) (jv 8) ?_ (by rw [List.length_map, sizeLine_eq]; show _ + 1 ≤ _; omega)) (happ c)
        refine jd_lst ?_
        exact jac (jv 4) jan
      exact jan
    · rintro _ (rfl | rfl)
      · exact d1
      · exact d2
  -- one left out
  refine ss_ifD0 (jt_inI2 (jv 3) (jd_tup (jac j_int (jac j_int jan)))) (fun h => ?_) fun _ => ?_
  · rw [Bool.or_eq_true, decide_eq_true_eq, decide_eq_true_eq] at h
    obtain ⟨k, hk⟩ : ∃ k : Nat, ((rd : Nat) : Int) - 5 = (k : Nat) := ⟨rd - 5, by omega⟩
    refine ss_setD (d := .int (k : Nat)) 6 nd (j_eq (jd_sub (jv 3) j_int) (congrArg D.int hk)) ?_
    have hsub : (r.1.take k ++ r.1.drop (k + 1)).Sublist r.1 := by
      rw [← List.eraseIdx_eq_take_drop_succ]
      exact List.eraseIdx_sublist _ _
    have hll := hsub.length_le
    rw [List.length_append] at hll
    refine ss_retD (d := .dic [("row", prD (r.1.take k ++ r.1.drop (k + 1), r.2))]) ?_ (done _ ⟨hq.ok.p.sub hsub, hq.ok.c, fun s h1 h2 => hq.ok.ap s (hsub.subset h1) h2, by show (r.1.take k ++ r.1.drop (k + 1)).length ≤ 8; rw [List.length_append]; omega, hq.ok.f2⟩ (by show (srt (r.1.take k ++ r.1.drop (k + 1)), srt r.2) = _; rw [srt_sub hsub hs1, hs2]))
    refine jd_dic1 ?_
    refine jd_tup ?_
    refine jac ?_ ?_
    · refine j_eq (jd_catT (ds := (r.1.take k).map D.str) (ds' := (r.1.drop (k + 1)).map D.str) ?_ ?_ (by rw [List.length_map, List.length_map, sizeLine_eq]; omega)) ?_
      · exact j_eq (jd_slT (ds := r.1.map D.str) (jd_ix (d1 := prD r) (jv 2) j_int at0 (.inr rfl)) jon (jos (jv 6))) (congrArg D.tup (cutD_to r.1 k))
      · exact j_eq (jd_slT (ds := r.1.map D.str) (jd_ix (d1 := prD r) (jv 2) j_int at0 (.inr rfl)) (jos (j_eq (jd_add (jv 6) j_int) (d2 := .int ((k + 1 : Nat) : Int)) rfl)) jon) (congrArg D.tup (cutD_from r.1 (k + 1)))
      · show D.tup _ = D.tup ((r.1.take k ++ r.1.drop (k + 1)).map D.str)
        rw [List.map_append]
    refine jac ?_ ?_
    · exact jd_ix (d1 := prD r) (jv 2) j_int at1 (.inr rfl)
    exact jan
  exact ss_retD (d := .dic [("row", prD r)]) (jd_dic1 (jv 2)) (done _ hq.ok hq.so)
end
end FD
end
section
set_option maxHeartbeats 2000000
/-! drawn papers -/
namespace FD
open PySem PySem.Spec PyProof.Rows L2
theorem flat_len {α β : Type} (f : α → List β) (n : Nat) : ∀ {l : List α}, (∀ x ∈ l, (f x).length ≤ n) → (l.flatMap f).length ≤ n * l.length
  | [], _ => by simp
  | a :: t, h => by
    have h1 := flat_len f n (l := t) fun x hx => h x (List.mem_cons_of_mem _ hx)
    have h2 := h a List.mem_cons_self
    rw [List.flatMap_cons, List.length_append, List.length_cons, Nat.mul_succ]
    omega
theorem Rcs.ls {ns : List Str} {rs : List Rc} (h : Rcs ns rs) : LsOk rs := by
  have l8 := h.l8
  have h1 := flat_len (fun r : Rc => r.2.1) 5 (l := rs) fun r hr => (h.q r hr).l1
  have h2 := flat_len (fun r : Rc => r.2.2) 5 (l := rs) fun r hr => (h.q r hr).l2
  exact ⟨⟨fun r hr => (h.q r hr).ok, by omega, by omega, by omega⟩, h.m⟩
theorem Rcs.sk {ns : List Str} {rs ms : List Rc} (h : Rcs ns rs) (s : ms.Sublist rs) : Sk (ms.map Prod.fst) := by
  have l8 := h.l8
  have := s.length_le
  exact ⟨by rw [List.length_map]; omega, (h.m.sub (s.map Prod.fst)).ok⟩
theorem signs_mem {rows : List Rw} {k : Bool} {s : Str} (h : s ∈ signs rows k) : ∃ r ∈ rows, s ∈ side k r := by
  unfold signs at h
  have h2 := dd_mem.mp (srt_mem.mp h)
  exact List.mem_flatMap.mp h2
theorem signs_nd (rows : List Rw) (k : Bool) : (signs rows k).Nodup := (srt_perm _).nodup_iff.mpr (dd_nodup _)
theorem joined_rq {ns : List Str} {rs ls : List Rc} (hn : Nq5 ns) (h : Rcs ns rs) (s : ls.Sublist rs) : Rq ns (joined ls) := by
  have n5 := hn.n5
  have hin : ∀ k, ∀ x ∈ signs (rws ls) k, x ∈ ns := fun k x hx => by
    obtain ⟨r, hr, hx2⟩ := signs_mem hx
    obtain ⟨q, hq, rfl⟩ := List.mem_map.mp hr
    have := (h.q q (s.subset hq)).cov x
    cases k
    · exact this (.inl hx2)
    · exact this (.inr hx2)
  have fs : ((signs (rws ls) false).filter fun x => !decide (x ∈ signs (rws ls) true)).Sublist (signs (rws ls) false) := List.filter_sublist
  have nd1 := fs.nodup (signs_nd _ _)
  have in1 : ∀ x ∈ (joined ls).1, x ∈ ns := fun x hx => hin false x (fs.subset hx)
  have in2 : ∀ x ∈ (joined ls).2, x ∈ ns := fun x hx => hin true x hx
  have len1 : (joined ls).1.length ≤ 5 := Nat.le_trans (pigeon nd1 in1) n5
  have len2 : (joined ls).2.length ≤ 5 := Nat.le_trans (pigeon (signs_nd _ _) in2) n5
  refine ⟨⟨⟨fun x hx => hn.n.ok x (in1 x hx), nd1⟩, ⟨fun x hx => hn.n.ok x (in2 x hx), signs_nd _ _⟩, fun x h1 h2 => ?_, by omega, by omega⟩, fun x hx => hx.elim (in1 x) (in2 x), ?_, len1, len2⟩
  · have := (List.mem_filter.mp h1).2
    have h3 : x ∈ signs (rws ls) true := h2
    simp [h3] at this
  · show (srt (joined ls).1, srt (joined ls).2) = joined ls
    have e2 : srt (signs (rws ls) true) = signs (rws ls) true := srt_srt _
    have e1 : srt (joined ls).1 = (joined ls).1 := srt_sub fs (srt_srt _)
    rw [e1]
    exact Prod.ext rfl e2
section
variable {P : Program} {w : World} {K : PySem.W.Frag} {mg : Str → Option Value} {base : Heap} (T : Mo K mg)
/-- a drawn paper, before it is bent -/
structure Pp (ps : List Pa) : Prop where
  all : ∀ p ∈ ps, Pk T p
  l1 : 1 ≤ ps.length
  l3 : ps.length ≤ 3
theorem Pp.two {wd : Str} {p : Pa} (h : Pk T p) (hw : wd.length ≤ 1000) (hn : wd ∉ words5) : Pp T [.str wd, p] := ⟨fun q hq => by
  rcases List.mem_cons.mp hq with rfl | hq
  · exact Pk.word T hw hn
  · rw [List.mem_singleton] at hq
    exact hq ▸ h, by show 1 ≤ 2; decide, by show 2 ≤ 3; decide⟩
theorem Pp.three {wd : Str} {p q : Pa} (h : Pk T p) (h2 : Pk T q) (hw : wd.length ≤ 1000) (hn : wd ∉ words5) : Pp T [.str wd, p, q] := ⟨fun x hq => by
  rcases List.mem_cons.mp hq with rfl | hq
  · exact Pk.word T hw hn
  · rcases List.mem_cons.mp hq with rfl | hq
    · exact h
    · rw [List.mem_singleton] at hq
      exact hq ▸ h2, by show 1 ≤ 3; decide, by show 3 ≤ 3; decide⟩
abbrev s_l_some_paper : Stmt := top 178
abbrev N_some : List Str := ["_law_bag", "_law_names_here", "_law_records_here", "_law_left", "_law_held", "_law_lot", "_law_joined_here", "_law_row_here", "_law_marks", "_law_road", "_law_one"]
theorem sc_l_some_paper : FnScope N_some ["_law_bag", "_law_names_here", "_law_records_here", "_law_left"] (defScope s_l_some_paper) := ⟨rfl, rfl, rfl, by decide +kernel, rfl, by decide +kernel, by decide +kernel⟩
structure Dw (ns : List Str) (rs : List Rc) (L : List (List Str)) : Prop where
  n : Nq5 ns
  r : Rcs ns rs
  p : Pm ns ns.length L
abbrev P_l_some_paper : Sp := Dro (ι := {p : List Str × List Rc × List (List Str) // Dw p.1 p.2.1 p.2.2}) (fun i => [sL i.1.1, .lst (i.1.2.1.map rcD), .lst (i.1.2.2.map sT)]) fun i d => ∃ ps, Pp T ps ∧ d = .tup (ps.map pD)
theorem F_l_some_paper (dn : Dn K mg "_law_some_paper" s_l_some_paper) (F1 : Fd P w K mg base "_law_pull" 1 P_l_pull) (F2 : Fd P w K mg base "_law_any" 2 SpAny) (F3 : Fd P w K mg base "_law_order_part" 4 (P_l_order_part T)) (F4 : Fd P w K mg base "_law_row_part" 4 (P_l_row_part T)) (F5 : Fd P w K mg base "_law_lot_part" 3 (P_l_lot_part T)) (F6 : Fd P w K mg base "_law_row" 2 P_l_row) (F7 : Fd P w K mg base "_law_stuck_lot" 1 P_l_stuck_lot) (F8 : Fd P w K mg base "_law_core" 2 P_l_core) (F9 : Fd P w K mg base "_law_pairs" 1 P_l_pairs) (F10 : Fd P w K mg base "_law_joined" 2 P_l_joined) :
    Fd P w K mg base "_law_some_paper" 5 (P_l_some_paper T) := by
  refine dn.fd (fun f fd G => fn_dro (k := 4) G sc_l_some_paper (fun i => rfl) ?_) fun f fd G => G.binds fun _ _ _ _ _ _ us hl => match us, hl with | [_, _, _, _], _ => rfl
  rintro ⟨⟨ms, rs, L⟩, hd⟩ b ns f cdv A outer s H E hr
  replace hd : Dw ms rs L := hd
  have hm := hd.n
  have hR := hd.r
  have r8 := hR.l8
  have nd := sc_l_some_paper.nd
  have hr1 := hr.mono (show 1 ≤ 4 by decide)
  have hr2 := hr.mono (show 2 ≤ 4 by decide)
  have hr3 := hr.mono (show 3 ≤ 4 by decide)
  have jm : Sk (rs.map Prod.fst) := hR.sk (List.Sublist.refl _)
  have hzl : (rs.map rcD).length ≤ 1000000 := by rw [List.length_map]; omega
  refine ss_par (P1 := fun d => d = sL (rs.map Prod.fst)) (P2 := fun d => ∃ k : Nat, k < 4 ∧ d = .int (k : Nat)) 8 9 rfl nd (j_eq (jd_lcm (own := [("_law_one", 10)]) rs rcD (fun r => D.str r.1) rfl nd (blkOk_by (by kernel_rfl)) (ji (ds := rs.map rcD) (jv 2) hzl (.inl rfl)) fun r _ => ⟨_, fun _ _ _ _ _ => jg_name (i := 10) nd rfl (by first | exact Or.inl rfl | exact Or.inr rfl) (by decide), fun _ _ _ _ _ => jd_ix (d1 := rcD r) (jv 10) j_int at0 (.inr rfl)⟩) (by show D.lst _ = D.lst ((rs.map Prod.fst).map D.str); rw [List.map_map]; rfl)) (jd_fb F1 ⟨4, by decide, by decide⟩ hr1 (jac (jv 0) (jac j_int jan))) ?_
  rintro _ _ rfl ⟨rd, _, rfl⟩
  -- fits
  refine ss_ifD0 (jt_eqI (jv 9) j_int) (fun _ => ?_) fun _ => ?_
  · refine ss_ret (P := fun d => ∃ ps, Pp T ps ∧ d = .tup (ps.map pD)) (jp_tup (Ps := fun ds => ∃ p, Pk T p ∧ ds = [.str "fits", pD p]) ?_ ?_) fun d h => h
    · refine JA.imp (ja_cons (P := fun d => d = .str "fits") ?_ (ja_cons (P := fun d => ∃ p, Pk T p ∧ d = pD p) ?_ ja_nil)) ?_
      · exact j_str
      · refine jd_fb F3 ⟨(ms, L), hm, hd.p⟩ hr ?_
        exact jac (jv 0) (jac (jv 1) (jac (jv 3) jan))
      · rintro _ ⟨_, _, rfl, rfl, _, _, rfl, ⟨p, hp, rfl⟩, rfl⟩
        exact ⟨p, hp, rfl⟩
    · rintro _ ⟨p, hp, rfl⟩
      exact ⟨by show 2 ≤ sizeLine; decide, [.str "fits", p], Pp.two T hp (by decide) (by decide), rfl⟩
  -- what is held
  refine ss_setLc 4 (own := [("_law_one", 10)]) (Pi := fun z => z = rs.map rcD) rfl nd (blkOk_by (by kernel_rfl)) (ji (ds := rs.map rcD) (jv 2) hzl (.inl rfl)) (fun its i acc => ∃ hs : List Rc, hs.Sublist (rs.take i) ∧ acc = hs.map rcD) (fun _ _ => ⟨[], List.nil_sublist _, rfl⟩) ?_ ?_
  · rintro _ i d acc rfl hd ⟨hs, hhs, rfl⟩ _
    obtain ⟨x, hx, rfl⟩ := map_get hd
    have hx2 := (hR.q x (List.mem_of_getElem? hx)).ok.s
    have et : rs.take (i + 1) = rs.take i ++ [x] := by
      obtain ⟨h1, h2⟩ := List.getElem?_eq_some_iff.mp hx
      rw [← h2]; exact List.take_succ_eq_append_getElem h1
    refine ⟨_, fun _ => True, fun z => z = rcD x, fun _ _ _ _ _ => jg_name (i := 10) nd rfl (by first | exact Or.inl rfl | exact Or.inr rfl) (by decide), fun _ _ _ _ _ => jf_one (JW.t (jwp_or (jt_neRw (r := x.2) (r' := ([], [])) hr.units (jd_ix (d1 := rcD x) (jv 10) j_int at1 (.inr rfl)) (jd_tup (jac (jd_tup jan) (jac (jd_tup jan) jan))) hx2.1 hx2.2 (fun _ h => nomatch h) (fun _ h => nomatch h)) (fun _ => jwp_or1 (jt_eqK (m := 8) (jd_fb F1 ⟨8, by decide, by decide⟩ hr1 (jac (jv 0) (jac j_int jan))) j_int)) fun _ => trivial)), fun e => ⟨fun _ _ _ _ _ => jv 10, ?_⟩, fun e => ?_⟩
    · rintro _ rfl
      exact ⟨hs ++ [x], by rw [et]; exact List.Sublist.append hhs (List.Sublist.refl _), by rw [List.map_append]; rfl⟩
    · exact ⟨hs, by rw [et]; exact hhs.trans (List.sublist_append_left _ _), rfl⟩
  rintro _ acc rfl ⟨hs, hhs, rfl⟩ _
  rw [List.length_map, List.take_length] at hhs
  refine ss_frz 4 rfl ?_
  have hsl := hhs.length_le
  -- a drawn lot
  refine ss_set (P := fun d => ∃ us : List Rc, us.Sublist rs ∧ d = sT (us.map Prod.fst)) 5 nd (jp_tuple T (P1 := fun d => ∃ us : List Rc, us.Sublist rs ∧ d = sL (us.map Prod.fst)) (j_lc (own := [("_law_one", 10)]) (Pi := fun z => z = hs.map rcD) rfl nd (blkOk_by (by kernel_rfl)) (ji (ds := hs.map rcD) (jv 4) (by rw [List.length_map]; omega) (.inl rfl)) (fun its i acc => ∃ us : List Rc, us.Sublist (hs.take i) ∧ acc = (us.map Prod.fst).map D.str) (fun _ _ => ⟨[], List.nil_sublist _, rfl⟩) ?_ ?_) ?_) ?_
  · rintro _ i d acc rfl hd ⟨us, hus, rfl⟩ _
    obtain ⟨x, hx, rfl⟩ := map_get hd
    have et : hs.take (i + 1) = hs.take i ++ [x] := by
      obtain ⟨h1, h2⟩ := List.getElem?_eq_some_iff.mp hx
      rw [← h2]; exact List.take_succ_eq_append_getElem h1
    refine ⟨_, fun _ => True, fun z => z = .str x.1, fun _ _ _ _ _ => jg_name (i := 10) nd rfl (by first | exact Or.inl rfl | exact Or.inr rfl) (by decide), fun _ _ _ _ _ => jf_one (jt_eqK (m := 2) (jd_fb F1 ⟨2, by decide, by decide⟩ hr1 (jac (jv 0) (jac j_int jan))) j_int), fun e => ⟨fun _ _ _ _ _ => jd_ix (d1 := rcD x) (jv 10) j_int at0 (.inr rfl), ?_⟩, fun e => ?_⟩
    · rintro _ rfl
      exact ⟨us ++ [x], by rw [et]; exact List.Sublist.append hus (List.Sublist.refl _), by rw [List.map_append, List.map_append]; rfl⟩
    · exact ⟨us, by rw [et]; exact hus.trans (List.sublist_append_left _ _), rfl⟩
  · rintro _ acc rfl ⟨us, hus, rfl⟩ _
    rw [List.length_map, List.take_length] at hus
    exact ⟨us, hus.trans hhs, rfl⟩
  · rintro _ ⟨us, hus, rfl⟩
    exact ⟨_, .inl rfl, us, hus, rfl⟩
  rintro _ ⟨us, hus, rfl⟩
  have hk := hR.sk hus
  -- stuck
  refine ss_ifD0 (jt_eqI (jv 9) j_int) (fun _ => ?_) fun _ => ?_
  · refine ss_set (P := fun d => ∃ zs, Sk zs ∧ d = sT zs) 5 nd (j_any (P1 := fun d => ∃ ds : List D, (∀ x ∈ ds, ∃ zs, Sk zs ∧ x = sT zs) ∧ ds.length = 4 ∧ d = .lst ds) F2 hr2 (jv 0) (jp_lst (Ps := fun ds => (∀ x ∈ ds, ∃ zs, Sk zs ∧ x = sT zs) ∧ ds.length = 4) ?_ ?_) ?_) ?_
    · refine JA.imp (ja_cons (P := fun d => ∃ zs, Sk zs ∧ d = sT zs) ?_ (ja_cons (P := fun d => ∃ zs, Sk zs ∧ d = sT zs) ?_ (ja_cons (P := fun d => d = sT (us.map Prod.fst)) ?_ (ja_cons (P := fun d => d = sT (rs.map Prod.fst)) ?_ ja_nil)))) ?_
      · refine jd_f F7 ⟨rs, hR.ls⟩ hr1 ?_ (hp := ?_)
        · exact jac (jv 2) jan
        · rintro _ ⟨zs, hz, rfl⟩
          exact ⟨_, hR.sk hz, rfl⟩
      · refine jd_f F8 ⟨rs, hR.ls⟩ hr2 ?_ (hp := ?_)
        · exact jac (jv 2) jan
        · rintro _ ⟨zs, hz, rfl⟩
          exact ⟨zs, ⟨hz.1, hz.2⟩, rfl⟩
      · exact jv 5
      · exact jd_tuple T (d := sL (rs.map Prod.fst)) (jv 8) (.inl rfl)
      · rintro _ ⟨_, _, rfl, h1, _, _, rfl, h2, _, _, rfl, h3, _, _, rfl, h4, rfl⟩
        refine ⟨fun x hx => ?_, rfl⟩
        simp only [List.mem_cons, List.not_mem_nil, or_false] at hx
        rcases hx with rfl | rfl | rfl | rfl
        · exact h1
        · exact h2
        · exact ⟨_, hk, h3⟩
        · exact ⟨_, jm, h4⟩
    · rintro ds ⟨h1, h2⟩
      exact ⟨by rw [h2]; decide, ds, h1, h2, rfl⟩
    · rintro _ ⟨ds, h1, h2, rfl⟩
      exact ⟨ds, rfl, by omega, by omega, h1⟩
    rintro _ ⟨zs, hz, rfl⟩
    refine ss_ret (P := fun d => ∃ ps, Pp T ps ∧ d = .tup (ps.map pD)) (jp_tup (Ps := fun ds => ∃ p, Pk T p ∧ ds = [.str "stuck", pD p]) ?_ ?_) fun d h => h
    · refine JA.imp (ja_cons (P := fun d => d = .str "stuck") ?_ (ja_cons (P := fun d => ∃ p, Pk T p ∧ d = pD p) ?_ ja_nil)) ?_
      · exact j_str
      · refine jd_fb F5 ⟨(rs.map Prod.fst, zs), jm, hz⟩ hr3 ?_
        exact jac (jv 0) (jac (jv 8) (jac (jv 5) jan))
      · rintro _ ⟨_, _, rfl, rfl, _, _, rfl, ⟨p, hp, rfl⟩, rfl⟩
        exact ⟨p, hp, rfl⟩
    · rintro _ ⟨p, hp, rfl⟩
      exact ⟨by show 2 ≤ sizeLine; decide, [.str "stuck", p], Pp.two T hp (by decide) (by decide), rfl⟩
  -- the joined row
  have hls : (lotOf rs (us.map Prod.fst)).Sublist rs := lot_sub _ _
  have hjr := joined_rq hm hR hls
  refine ss_setD (d := prD (joined (lotOf rs (us.map Prod.fst)))) 6 nd ?_ ?_
  · refine jd_f F10 ⟨lotOf rs (us.map Prod.fst), hR.ls.sub hls⟩ hr2 ?_
    refine jac ?_ jan
    refine jd_f F9 ⟨(rs, us.map Prod.fst), by show rs.length ≤ 40; omega⟩ hr1 ?_
    exact jac (jv 2) (jac (jv 5) jan)
  generalize joined (lotOf rs (us.map Prod.fst)) = jr at hjr ⊢
  -- follows
  refine ss_ifD0 (jt_eqI (jv 9) j_int) (fun _ => ?_) fun _ => ?_
  · refine ss_ret (P := fun d => ∃ ps, Pp T ps ∧ d = .tup (ps.map pD)) (jp_tup (Ps := fun ds => ∃ p q, Pk T p ∧ Pk T q ∧ ds = [.str "follows", pD p, pD q]) ?_ ?_) fun d h => h
    · refine JA.imp (ja_cons (P := fun d => d = .str "follows") ?_ (ja_cons (P := fun d => ∃ p, Pk T p ∧ d = pD p) ?_ (ja_cons (P := fun d => ∃ p, Pk T p ∧ d = pD p) ?_ ja_nil))) ?_
      · exact j_str
      · refine jd_fb F4 ⟨(ms, jr), hm, hjr⟩ hr ?_
        exact jac (jv 0) (jac (jv 1) (jac (jv 6) jan))
      · refine jd_fb F5 ⟨(rs.map Prod.fst, us.map Prod.fst), jm, hk⟩ hr3 ?_
        exact jac (jv 0) (jac (jv 8) (jac (jv 5) jan))
      · rintro _ ⟨_, _, rfl, rfl, _, _, rfl, ⟨p, hp, rfl⟩, _, _, rfl, ⟨q, hq, rfl⟩, rfl⟩
        exact ⟨p, q, hp, hq, rfl⟩
    · rintro _ ⟨p, q, hp, hq, rfl⟩
      exact ⟨by show 3 ≤ sizeLine; decide, [.str "follows", p, q], Pp.three T hp hq (by decide) (by decide), rfl⟩
  -- open
  refine ss_set (P := fun d => ∃ r, Rq ms r ∧ d = prD r) 7 nd (j_if (jt_eqK (m := 4) (jd_fb F1 ⟨4, by decide, by decide⟩ hr1 (jac (jv 0) (jac j_int jan))) j_int) (fun _ => J.imp (P := fun d => d = prD jr) (jv 6) fun d h => ⟨jr, hjr, h⟩) (fun _ => ?_)) ?_
  · refine jd_fb F6 ⟨(ms, []), ⟨hm.n, hm.n5⟩, Nat.zero_le _⟩ hr2 ?_
    refine jac (jv 0) ?_
    refine jac (jv 1) ?_
    exact jac (jd_tup jan) jan
  rintro _ ⟨r, hq, rfl⟩
  refine ss_ret (P := fun d => ∃ ps, Pp T ps ∧ d = .tup (ps.map pD)) (jp_tup (Ps := fun ds => ∃ p q, Pk T p ∧ Pk T q ∧ ds = [.str "open", pD p, pD q]) ?_ ?_) fun d h => h
  · refine JA.imp (ja_cons (P := fun d => d = .str "open") ?_ (ja_cons (P := fun d => ∃ p, Pk T p ∧ d = pD p) ?_ (ja_cons (P := fun d => ∃ p, Pk T p ∧ d = pD p) ?_ ja_nil))) ?_
    · exact j_str
    · refine jd_fb F4 ⟨(ms, r), hm, hq⟩ hr ?_
      exact jac (jv 0) (jac (jv 1) (jac (jv 7) jan))
    · refine jd_fb F3 ⟨(ms, L), hm, hd.p⟩ hr ?_
      exact jac (jv 0) (jac (jv 1) (jac (jv 3) jan))
    · rintro _ ⟨_, _, rfl, rfl, _, _, rfl, ⟨p, hp, rfl⟩, _, _, rfl, ⟨q, hq, rfl⟩, rfl⟩
      exact ⟨p, q, hp, hq, rfl⟩
  · rintro _ ⟨p, q, hp, hq, rfl⟩
    exact ⟨by show 3 ≤ sizeLine; decide, [.str "open", p, q], Pp.three T hp hq (by decide) (by decide), rfl⟩
end
end FD
end
section
set_option maxHeartbeats 2000000
/-! bent papers -/
namespace FD
open PySem PySem.Spec PyProof.Rows L2
theorem cutD_fromd (ds : List D) (k : Nat) : cutD ds (some (k : Int)) none = ds.drop k := by
  unfold cutD
  rw [HT.sIx_none, HT.sIx_nat]
  have e : ds.drop (min k ds.length) = ds.drop k := by
    rcases Nat.le_total k ds.length with h | h
    · rw [Nat.min_eq_left h]
    · rw [Nat.min_eq_right h, List.drop_eq_nil_of_le (Nat.le_refl _), List.drop_eq_nil_of_le h]
  rw [e, List.take_of_length_le]
  rw [List.length_drop]
  omega
def words15 : List Pa := [.str "fits", .str "stuck", .str "follows", .str "open", .str "some", .str "surely", .str "never", .str "slips", .str "changes", .str "clerks", .str "Fits", .str "", .non, .int 0, .seq true []]
section
variable {P : Program} {w : World} {K : PySem.W.Frag} {mg : Str → Option Value} {base : Heap} (T : Mo K mg)
/-- .. and bent -/
structure Bp (ps : List Pa) : Prop where
  ok : ∀ p ∈ ps, PaOk T p
  fw : ∀ p ∈ ps, few p
  fl : ∀ t its, Pa.seq t its ∈ ps → ∀ e ∈ its, e.flat = true ∨ e = .tup []
  ln : ps.length ≤ 4
  wd : WdOk ps
theorem Bp.of {ps : List Pa} (h : ∀ p ∈ ps, Pk T p) (hl : ps.length ≤ 4) : Bp T ps :=
  ⟨fun p hp => (h p hp).ok, fun p hp => (h p hp).fw, fun t its hp => (h _ hp).fl t its rfl, hl, .inr fun wd rest e => (h (.str wd) (by rw [e]; exact List.mem_cons_self)).nw wd rfl⟩
theorem words15_ok : ∀ p ∈ words15, PaOk T p ∧ few p ∧ ∀ t its, p = .seq t its → ∀ e ∈ its, e.flat = true ∨ e = .tup [] := by
  intro p hp
  have hs : ∀ s : Str, s.length ≤ 1000 → PaOk T (.str s) ∧ few (.str s) ∧ ∀ t its, Pa.str s = .seq t its → ∀ e ∈ its, e.flat = true ∨ e = .tup [] := fun s h => ⟨h, trivial, fun t its e => nomatch e⟩
  simp only [words15, List.mem_cons, List.not_mem_nil, or_false] at hp
  rcases hp with rfl | rfl | rfl | rfl | rfl | rfl | rfl | rfl | rfl | rfl | rfl | rfl | rfl | rfl | rfl
  · exact hs _ (by decide)
  · exact hs _ (by decide)
  · exact hs _ (by decide)
  · exact hs _ (by decide)
  · exact hs _ (by decide)
  · exact hs _ (by decide)
  · exact hs _ (by decide)
  · exact hs _ (by decide)
  · exact hs _ (by decide)
  · exact hs _ (by decide)
  · exact hs _ (by decide)
  · exact hs _ (by decide)
  · exact ⟨trivial, trivial, fun t its e => nomatch e⟩
  · exact ⟨trivial, trivial, fun t its e => nomatch e⟩
  · exact ⟨⟨by decide, fun _ h => nomatch h⟩, (by show ([] : List D).length < 64; decide), fun t its e x hx => by cases e; cases hx⟩
abbrev s_l_bent_paper : Stmt := top 174
abbrev N_bent : List Str := ["_law_bag", "_law_paper", "_law_names_here", "_law_road", "_law_spot", "_law_words"]
theorem sc_l_bent_paper : FnScope N_bent ["_law_bag", "_law_paper", "_law_names_here"] (defScope s_l_bent_paper) := ⟨rfl, rfl, rfl, by decide +kernel, rfl, by decide +kernel, by decide +kernel⟩
abbrev P_l_bent_paper : Sp := Dro (ι := {p : List Pa × List Str // Pp T p.1 ∧ Nq5 p.2}) (fun i => [.tup (i.1.1.map pD), sL i.1.2]) fun i d => ∃ t qs, Bp T qs ∧ d = sqD t (qs.map pD)
theorem F_l_bent_paper (dn : Dn K mg "_law_bent_paper" s_l_bent_paper) (F1 : Fd P w K mg base "_law_pull" 1 P_l_pull) (F2 : Fd P w K mg base "_law_any" 2 SpAny) (F4 : Fd P w K mg base "_law_odd_part" 3 (P_l_odd_part T)) : Fd P w K mg base "_law_bent_paper" 4 (P_l_bent_paper T) := by
  refine dn.fd (fun f fd G => fn_dro (k := 3) G sc_l_bent_paper (fun i => rfl) ?_) fun f fd G => G.binds fun _ _ _ _ _ _ us hl => match us, hl with | [_, _, _], _ => rfl
  rintro ⟨⟨ps, ms⟩, hp, hm⟩ b ns f cdv A outer s H E hr
  replace hp : Pp T ps := hp
  replace hm : Nq5 ms := hm
  have p3 := hp.l3
  have nd := sc_l_bent_paper.nd
  have hr1 := hr.mono (show 1 ≤ 3 by decide)
  have hr2 := hr.mono (show 2 ≤ 3 by decide)
  have hpl : (ps.map pD).length = ps.length := List.length_map ..
  refine ss_set (P := fun d => ∃ k : Nat, k < 16 ∧ d = .int (k : Nat)) 3 nd (jd_fb F1 ⟨16, by decide, by decide⟩ hr1 (jac (jv 0) (jac j_int jan))) ?_
  rintro _ ⟨rd, _, rfl⟩
  refine ss_set (P := fun d => ∃ k : Nat, k < ps.length + 1 ∧ d = .int (k : Nat)) 4 nd (jd_fb F1 ⟨ps.length + 1, by omega, by omega⟩ hr1 (jac (jv 0) (jac (j_eq (jd_add (jd_len T (ds := ps.map pD) (jv 1) (.inr rfl)) j_int) (by rw [hpl, Int.natCast_add]; rfl)) jan))) ?_
  rintro _ ⟨k, hk, rfl⟩
  have tk : (ps.take k).length ≤ 3 := by rw [List.length_take]; omega
  have hto : ∀ {X : Cx} {g : Bg} {ρ : List Slot} {e u : Expr} {p1 p2 : Pos}, JD X g ρ e (.tup (ps.map pD)) → JD X g ρ u (.int (k : Nat)) → JD X g ρ (.Subscript e (.Slice none (some u) none p1) p2) (.tup ((ps.take k).map pD)) := fun h h1 => j_eq (jd_slT (ds := ps.map pD) h jon (jos h1)) (by rw [cutD_d, List.map_take])
  have hfrom : ∀ (j : Nat) {X : Cx} {g : Bg} {ρ : List Slot} {e u : Expr} {p1 p2 : Pos}, JD X g ρ e (.tup (ps.map pD)) → JD X g ρ u (.int (j : Nat)) → JD X g ρ (.Subscript e (.Slice (some u) none none p1) p2) (.tup ((ps.drop j).map pD)) := fun j _ _ _ _ _ _ _ h h1 => j_eq (jd_slT (ds := ps.map pD) h (jos h1) jon) (by rw [cutD_fromd, List.map_drop])
  have dl : ∀ j, (ps.drop j).length ≤ 3 := fun j => by rw [List.length_drop]; omega
  have kt : ∀ q ∈ ps.take k, Pk T q := fun q hq => hp.all q (List.mem_of_mem_take hq)
  have kd : ∀ j, ∀ q ∈ ps.drop j, Pk T q := fun j q hq => hp.all q (List.mem_of_mem_drop hq)
  have oddD : ∀ {X : Cx} {ρ : List Slot} {e : Expr} {kk : Nat} {p2 : Pos}, J X (some (b, ns)) ρ e (fun d => ∃ p, Pk T p ∧ d = pD p) → starEach [e] X.env = (false, eval e X.env) :: starEach [] X.env → J X (some (b, ns)) ρ (.Tuple [e] kk p2) (fun d => ∃ p, Pk T p ∧ d = .tup [pD p]) := fun h hs => jp_tup (Ps := fun ds => ∃ p, Pk T p ∧ ds = [pD p]) (JA.imp (ja_cons h ja_nil hs) (by
    rintro _ ⟨_, _, rfl, ⟨p, hp, rfl⟩, rfl⟩
    exact ⟨p, hp, rfl⟩)) (by
    rintro _ ⟨p, hp, rfl⟩
    exact ⟨by show 1 ≤ sizeLine; decide, p, hp, rfl⟩)
  -- one put in
  have put : ∀ (p : Pa) (j : Nat), Pk T p → (ps.take k ++ [p] ++ ps.drop j).length ≤ 4 → ∃ t qs, Bp T qs ∧ D.tup ((ps.take k).map pD ++ [pD p] ++ (ps.drop j).map pD) = sqD t (qs.map pD) := fun p j h hl => ⟨true, ps.take k ++ [p] ++ ps.drop j, Bp.of T (fun q hq => by
    rcases List.mem_append.mp hq with hq | hq
    · rcases List.mem_append.mp hq with hq | hq
      · exact kt q hq
      · rw [List.mem_singleton] at hq
        exact hq ▸ h
    · exact kd j q hq) hl, by show D.tup _ = D.tup _; rw [List.map_append, List.map_append]; rfl⟩
  refine ss_ifD0 (jt_eqI (jv 3) j_int) (fun _ => ?_) fun _ => ?_
  · refine ss_ret (P := fun d => ∃ t qs, Bp T qs ∧ d = sqD t (qs.map pD)) (jp_catT (P1 := fun d => ∃ p, Pk T p ∧ d = .tup ((ps.take k).map pD ++ [pD p])) (P2 := fun d => d = .tup ((ps.drop k).map pD)) (jp_catT (P1 := fun d => d = .tup ((ps.take k).map pD)) (P2 := fun d => ∃ p, Pk T p ∧ d = .tup [pD p]) (hto (jv 1) (jv 4)) (oddD ?_ (by rfl)) ?_) (hfrom k (jv 1) (jv 4)) ?_) fun d h => h
    · exact jd_fb F4 ⟨ms, hm⟩ hr (jac (jv 0) (jac (jv 2) jan))
    · rintro _ _ rfl ⟨p, hp, rfl⟩
      exact ⟨_, _, rfl, rfl, by rw [List.length_map, sizeLine_eq]; show _ + 1 ≤ _; omega, p, hp, rfl⟩
    · rintro _ _ ⟨p, hp2, rfl⟩ rfl
      have h1 := dl k
      refine ⟨_, _, rfl, rfl, by rw [List.length_append, List.length_map, List.length_map, sizeLine_eq]; show _ + 1 + _ ≤ _; omega, put p k hp2 ?_⟩
      rw [List.length_append, List.length_append, List.length_take, List.length_drop]
      show _ + 1 + _ ≤ 4
      omega
  -- one left out
  refine ss_ifD0 (jt_eqI (jv 3) j_int) (fun _ => ?_) fun _ => ?_
  · refine ss_retD (d := .tup ((ps.take k).map pD ++ (ps.drop (k + 1)).map pD)) (jd_catT (hto (jv 1) (jv 4)) (hfrom (k + 1) (jv 1) (j_eq (jd_add (jv 4) j_int) rfl)) ?_) ⟨true, ps.take k ++ ps.drop (k + 1), Bp.of T (fun q hq => (List.mem_append.mp hq).elim (kt q) (kd _ q)) ?_, ?_⟩
    · have h1 := dl (k + 1)
      rw [List.length_map, List.length_map, sizeLine_eq]
      omega
    · have h1 := dl (k + 1)
      rw [List.length_append, List.length_take, List.length_drop]
      omega
    · show D.tup _ = D.tup _
      rw [List.map_append]
  -- one exchanged
  refine ss_ifD0 (jt_eqI (jv 3) j_int) (fun _ => ?_) fun _ => ?_
  · refine ss_ret (P := fun d => ∃ t qs, Bp T qs ∧ d = sqD t (qs.map pD)) (jp_catT (P1 := fun d => ∃ p, Pk T p ∧ d = .tup ((ps.take k).map pD ++ [pD p])) (P2 := fun d => d = .tup ((ps.drop (k + 1)).map pD)) (jp_catT (P1 := fun d => d = .tup ((ps.take k).map pD)) (P2 := fun d => ∃ p, Pk T p ∧ d = .tup [pD p]) (hto (jv 1) (jv 4)) (oddD ?_ (by rfl)) ?_) (hfrom (k + 1) (jv 1) (j_eq (jd_add (jv 4) j_int) rfl)) ?_) fun d h => h
    · exact jd_fb F4 ⟨ms, hm⟩ hr (jac (jv 0) (jac (jv 2) jan))
    · rintro _ _ rfl ⟨p, hp, rfl⟩
      exact ⟨_, _, rfl, rfl, by rw [List.length_map, sizeLine_eq]; show _ + 1 ≤ _; omega, p, hp, rfl⟩
    · rintro _ _ ⟨p, hp2, rfl⟩ rfl
      have h1 := dl (k + 1)
      refine ⟨_, _, rfl, rfl, by rw [List.length_append, List.length_map, List.length_map, sizeLine_eq]; show _ + 1 + _ ≤ _; omega, put p (k + 1) hp2 ?_⟩
      rw [List.length_append, List.length_append, List.length_take, List.length_drop]
      show _ + 1 + _ ≤ 4
      omega
  -- another word
  refine ss_ifD0 (jt_eqI (jv 3) j_int) (fun _ => ?_) fun _ => ?_
  · refine ss_setD (d := .lst (words15.map pD)) 5 nd (jd_lst (ds := words15.map pD) (jac j_str (jac j_str (jac j_str (jac j_str (jac j_str (jac j_str (jac j_str (jac j_str (jac j_str (jac j_str (jac j_str (jac j_str (jac j_non (jac j_int (jac (jd_tup jan) jan)))))))))))))))) ?_
    refine ss_ret (P := fun d => ∃ t qs, Bp T qs ∧ d = sqD t (qs.map pD)) (jp_catT (P1 := fun d => ∃ p ∈ words15, d = .tup [pD p]) (P2 := fun d => d = .tup ((ps.drop 1).map pD)) (jp_tup (Ps := fun ds => ∃ p ∈ words15, ds = [pD p]) (JA.imp (ja_cons (P := fun d => ∃ p ∈ words15, d = pD p) (j_any (P1 := fun d => d = .lst (words15.map pD)) F2 hr2 (jv 0) (jv 5) ?_) ja_nil) ?_) ?_) (hfrom 1 (jv 1) j_int) ?_) fun d h => h
    · rintro _ rfl
      refine ⟨_, rfl, (by show 1 ≤ 15; decide), (by show 15 ≤ 1000000; decide), fun x hx => ?_⟩
      obtain ⟨p, hp, rfl⟩ := List.mem_map.mp hx
      exact ⟨p, hp, rfl⟩
    · rintro _ ⟨_, _, rfl, ⟨p, hp, rfl⟩, rfl⟩
      exact ⟨p, hp, rfl⟩
    · rintro _ ⟨p, hp, rfl⟩
      exact ⟨by show 1 ≤ sizeLine; decide, p, hp, rfl⟩
    · rintro _ _ ⟨p, hw, rfl⟩ rfl
      have h1 := dl 1
      obtain ⟨w1, w2, w3⟩ := words15_ok T p hw
      have h2 : (p :: ps.drop 1).length ≤ 3 := by
        rw [List.length_cons, List.length_drop]
        have := hp.l1
        omega
      refine ⟨_, _, rfl, rfl, by rw [List.length_map, sizeLine_eq]; show 1 + _ ≤ _; omega, true, p :: ps.drop 1, ⟨fun q hq => ?_, fun q hq => ?_, fun t its hq => ?_, by omega, .inl h2⟩, rfl⟩
      · rcases List.mem_cons.mp hq with rfl | hq
        · exact w1
        · exact (kd 1 q hq).ok
      · rcases List.mem_cons.mp hq with rfl | hq
        · exact w2
        · exact (kd 1 q hq).fw
      · rcases List.mem_cons.mp hq with hq | hq
        · exact w3 t its hq.symm
        · exact (kd 1 _ hq).fl t its rfl
  refine ss_ret (P := fun d => d = .lst (ps.map pD) ∨ d = .tup (ps.map pD)) (j_if (jt_eqI (jv 3) j_int) (fun _ => J.imp (P := fun d => d = .lst (ps.map pD)) (jd_list T (d := .tup (ps.map pD)) (jv 1) (.inr rfl)) fun d h => .inl h) (fun _ => J.imp (P := fun d => d = .tup (ps.map pD)) (jv 1) fun d h => .inr h)) ?_
  rintro _ (rfl | rfl)
  · exact ⟨false, ps, Bp.of T hp.all (by omega), rfl⟩
  · exact ⟨true, ps, Bp.of T hp.all (by omega), rfl⟩
end
end FD
end
section
set_option maxHeartbeats 2000000
/-! the plain law: what flaw says is what is due -/
namespace FD
open PySem PySem.Spec PyProof.Rows L2
/-! ### lots -/
theorem idx_pw {ms : List Str} (h : ms.Nodup) : ms.Pairwise fun a b => ms.idxOf a < ms.idxOf b := by
  rw [List.pairwise_iff_getElem]
  intro i j hi hj hij
  rw [h.idxOf_getElem i hi, h.idxOf_getElem j hj]
  exact hij
theorem idx_inj {ms : List Str} {a b : Str} (ha : a ∈ ms) (h : ms.idxOf a = ms.idxOf b) : a = b := by
  have h1 : ms.idxOf a < ms.length := List.idxOf_lt_length_of_mem ha
  have h2 : ms.idxOf b < ms.length := by rw [← h]; exact h1
  have e1 := List.getElem_idxOf h1
  have e2 := List.getElem_idxOf h2
  rw [← e1, ← e2]
  congr 1
theorem dd_id {α : Type} [DecidableEq α] : ∀ {xs : List α}, xs.Nodup → dd xs = xs
  | [], _ => rfl
  | x :: xs, h => by
    have hn := List.nodup_cons.mp h
    unfold dd
    rw [dd_id hn.2, if_neg hn.1]
/-- a lot: a part of the marks, in their order -/
theorem lot_iff {ms ss : List Str} (hm : ms.Nodup) : (ss = ms.filter fun m => decide (m ∈ ss)) ↔ (∀ s ∈ ss, s ∈ ms) ∧ ss.Pairwise fun a b => ms.idxOf a < ms.idxOf b := by
  constructor
  · intro h
    have hs : ss.Sublist ms := by
      have := List.filter_sublist (p := fun m => decide (m ∈ ss)) (l := ms)
      rwa [← h] at this
    exact ⟨fun s hx => hs.subset hx, (idx_pw hm).sublist hs⟩
  · rintro ⟨h1, h2⟩
    have h3 : (ms.filter fun m => decide (m ∈ ss)).Pairwise fun a b => ms.idxOf a < ms.idxOf b := (idx_pw hm).sublist List.filter_sublist
    have nd : ss.Nodup := h2.imp fun hab e => by rw [e] at hab; exact Nat.lt_irrefl _ hab
    have pm : ss.Perm (ms.filter fun m => decide (m ∈ ss)) := (List.perm_ext_iff_of_nodup nd (hm.sublist List.filter_sublist)).mpr fun x => by
      rw [List.mem_filter, decide_eq_true_eq]
      exact ⟨fun h => ⟨h1 x h, h⟩, fun h => h.2⟩
    exact List.Perm.eq_of_pairwise (fun a b _ _ r1 r2 => absurd (Nat.lt_trans r1 r2) (Nat.lt_irrefl _)) h2 h3 pm
theorem pw_nat_int {ms : List Str} : ∀ {ss : List Str}, ((ss.map fun s => ((ms.idxOf s : Nat) : Int)).Pairwise fun a b => a < b) ↔ ss.Pairwise fun a b => ms.idxOf a < ms.idxOf b := by
  intro ss
  rw [List.pairwise_map]
  constructor
  · exact fun h => h.imp fun hab => by omega
  · exact fun h => h.imp fun hab => by omega
theorem ix_iff (ix : List Int) : ix = srtI (dd ix) ↔ ix.Pairwise fun a b => a < b := by
  constructor
  · intro h
    have nd : ix.Nodup := by rw [h]; exact (srtI_perm _).nodup_iff.mpr (dd_nodup _)
    have pw : ix.Pairwise fun a b => a ≤ b := by rw [h]; exact srtI_pw _
    exact (pw.and nd).imp fun ⟨h1, h2⟩ => by omega
  · intro h
    have nd : ix.Nodup := h.imp fun hab e => by omega
    rw [dd_id nd]
    exact srtI_eq (List.Perm.refl _) (h.imp fun hab => by omega)
theorem lot_eq {rs : List Rc} (hm : Nms (rs.map Prod.fst)) (p : Pa) : lotQ rs p = lotL (rs.map Prod.fst) p := by
  cases p with
  | seq t its =>
    cases t with
    | false => rfl
    | true =>
      show (its.all D.isStr && isLot rs (its.map D.txt)) = (its.all D.isStr && lotS (rs.map Prod.fst) (its.map D.txt))
      congr 1
      unfold isLot lotS
      generalize its.map D.txt = ss
      generalize rs.map Prod.fst = ms at hm
      rw [Bool.eq_iff_iff, Bool.and_eq_true, Bool.and_eq_true, Bool.and_eq_true, decide_eq_true_eq, decide_eq_true_eq, decide_eq_true_eq, List.all_eq_true, List.all_eq_true, lot_iff hm.nd, ix_iff, pw_nat_int]
      constructor
      · rintro ⟨_, h1, h2⟩
        exact ⟨fun s hs => decide_eq_true (h1 s hs), h2⟩
      · rintro ⟨h1, h2⟩
        have h3 : ∀ s ∈ ss, s ∈ ms := fun s hs => of_decide_eq_true (h1 s hs)
        exact ⟨⟨fun s hs => hm.ok s (h3 s hs), h2.imp fun hab e => by rw [e] at hab; exact Nat.lt_irrefl _ hab⟩, h3, h2⟩
  | _ => rfl
/-! ### orders -/
theorem find_congr {α : Type} {p q : α → Bool} : ∀ {l : List α}, (∀ x ∈ l, p x = q x) → l.find? p = l.find? q
  | [], _ => rfl
  | a :: t, h => by
    rw [List.find?_cons, List.find?_cons, h a List.mem_cons_self, find_congr fun x hx => h x (List.mem_cons_of_mem _ hx)]
theorem bears_eq (o : List Str) (r : Rw) : bears o r = lbears o r := by
  have e : decides o r = o.find? fun s => decide (s ∈ r.1) || decide (s ∈ r.2) := by
    unfold decides named
    refine find_congr fun s _ => ?_
    rw [Bool.eq_iff_iff, Bool.or_eq_true, decide_eq_true_eq, decide_eq_true_eq, decide_eq_true_eq, srt_mem, List.mem_append]
  unfold bears lbears
  rw [e]
  all_goals (cases o.find? fun s => decide (s ∈ r.1) || decide (s ∈ r.2) <;> rfl)
theorem unb_eq (rs : List Rc) (o : List Str) : fUnb rs o = lUnb rs o := by
  unfold fUnb lUnb hdF unborne
  have e : (rs.filter fun r => !bears o r.2) = rs.filter fun r => !lbears o r.2 := List.filter_congr fun r _ => by rw [bears_eq]
  rw [e]
theorem idle_eq (ls : List Rc) : fIdle ls = lIdle ls := by
  unfold fIdle lIdle hdF
  rw [List.head?_map, List.head?_filter, Option.map_map]
  rfl
/-- the least of two lists that have the same things -/
theorem head_eq {xs ys : List Str} (hx : xs.Pairwise fun a b => sle a b = true) (hy : ys.Pairwise fun a b => sle a b = true) (h : ∀ s, s ∈ xs ↔ s ∈ ys) : xs.head? = ys.head? := by
  cases xs with
  | nil =>
    cases ys with
    | nil => rfl
    | cons b ys => exact nomatch (h b).mpr List.mem_cons_self
  | cons a xs =>
    cases ys with
    | nil => exact nomatch (h a).mp List.mem_cons_self
    | cons b ys =>
      have e : a = b := by
        rcases List.mem_cons.mp ((h a).mp List.mem_cons_self) with e | e
        · exact e
        · rcases List.mem_cons.mp ((h b).mpr List.mem_cons_self) with e2 | e2
          · exact e2.symm
          · exact sle_antisymm (List.rel_of_pairwise_cons hx e2) (List.rel_of_pairwise_cons hy e)
      rw [e]
      rfl
theorem signs_iff {rows : List Rw} {k : Bool} {s : Str} : s ∈ signs rows k ↔ ∃ r ∈ rows, s ∈ side k r := by
  unfold signs
  rw [srt_mem, dd_mem, List.mem_flatMap]
theorem against_iff {rows : List Rw} {s : Str} : s ∈ against rows ↔ s ∈ signs rows true := by
  rw [signs_iff]
  unfold against
  rw [List.mem_flatMap]
  rfl
theorem for_eq {rows : List Rw} {ans : List Str} {b : Str → Bool} (h : ∀ s, (!decide (s ∈ ans)) = b s) : fFor rows ans = hdF "for" ((signs rows false).filter b) := by
  unfold fFor hdF
  have e : (srt (rows.flatMap fun r => r.1.filter fun s => !decide (s ∈ ans))).head? = ((signs rows false).filter b).head? := by
    refine head_eq (srt_pw _) ((srt_pw _).sublist List.filter_sublist) fun s => ?_
    rw [srt_mem, List.mem_flatMap, List.mem_filter, signs_iff]
    constructor
    · rintro ⟨r, hr, hs⟩
      obtain ⟨h1, h2⟩ := List.mem_filter.mp hs
      exact ⟨⟨r, hr, h1⟩, by rw [← h s]; exact h2⟩
    · rintro ⟨⟨r, hr, hs⟩, h2⟩
      exact ⟨r, hr, List.mem_filter.mpr ⟨hs, by rw [h s]; exact h2⟩⟩
  rw [e]
theorem not_mem_dec {a b : List Str} (h : ∀ s, s ∈ a ↔ s ∈ b) (s : Str) : (!decide (s ∈ a)) = !decide (s ∈ b) := by
  rw [decide_eq_decide.mpr (h s)]
theorem stuck_eq (ls : List Rc) : fStuck ls = lStuck ls := by
  unfold fStuck lStuck
  rw [idle_eq]
  have er : (rws ls).isEmpty = true ↔ ls = [] := by
    unfold rws
    rw [List.isEmpty_iff, List.map_eq_nil_iff]
  have ef : fFor (ls.map Prod.snd) (against (ls.map Prod.snd)) = hdF "for" ((signs (rws ls) false).filter fun x => !decide (x ∈ signs (rws ls) true)) := for_eq (not_mem_dec fun s => against_iff)
  by_cases h0 : ls = []
  · rw [if_pos h0, if_pos (er.mpr h0)]
  · rw [if_neg h0, if_neg (fun h => h0 (er.mp h))]
    cases hi : lIdle ls with
    | some f => rfl
    | none =>
      show fFor _ _ = _
      rw [ef]
      by_cases he : ((signs (rws ls) false).filter fun x => !decide (x ∈ signs (rws ls) true)) = []
      · rw [he]
        rfl
      · rw [if_neg]
        simp [he]
theorem filter_head {α : Type} {p : α → Bool} {l : List α} : (l.filter p).head? = l.find? p := List.head?_filter
theorem grounds_eq {r : Rw} (ls : List Rc) : fGrounds r ls = lFollow r ls := by
  unfold fGrounds lFollow
  rw [idle_eq]
  cases hi : lIdle ls with
  | some f => rfl
  | none =>
    show (match r.2.find? _ with | some s => _ | none => _) = if (none : Fl).isNone = false then _ else _
    rw [if_neg (by decide)]
    have e1 : (r.2.find? fun s => !decide (s ∈ against (ls.map Prod.snd))) = (lAg r ls).head? := by
      unfold lAg
      rw [filter_head]
      exact find_congr fun s _ => not_mem_dec (fun s => against_iff) s
    rw [e1]
    cases hl : lAg r ls with
    | nil =>
      show fFor _ _ = _
      rw [if_pos rfl]
      refine for_eq fun s => ?_
      rw [Bool.eq_iff_iff, Bool.and_eq_true]
      simp only [Bool.not_eq_true', decide_eq_false_iff_not, List.mem_append, not_or]
      rw [against_iff]
      rfl
    | cons a t =>
      rw [if_neg (by simp)]
      rfl
theorem open_eq (rs : List Rc) (r : Rw) (o : List Str) : fOpen rs r o = (if (lUnb rs o).isNone = true ∧ lbears o r = true then some ("borne", none) else lUnb rs o : Fl) := by
  unfold fOpen
  rw [unb_eq, bears_eq]
  by_cases h1 : (lUnb rs o).isNone = true <;> by_cases h2 : lbears o r = true <;> simp [h1, h2]
theorem row_eq (ns : List Str) (p : Pa) : rowQ ns p = rowL ns p := by
  cases p with
  | row r =>
    show ((r.1 ++ r.2).all fun s => decide (s ∈ srt ns)) = (r.1 ++ r.2).all fun s => decide (s ∈ ns)
    congr 1
    funext s
    rw [decide_eq_decide.mpr srt_mem]
  | _ => rfl
theorem ordQ_ord' {ns : List Str} {p : Pa} (h : ordQ ns p = true) : ∃ o, p = .ord o := by
  cases p with
  | ord o => exact ⟨o, rfl⟩
  | _ => cases h
/-- THE PLAIN LAW -/
theorem plain {ns : List Str} {rs : List Rc} (hm : Nms (rs.map Prod.fst)) : ∀ ps : List Pa, flawM ns rs ps = dueM ns rs true ps
  | [] => rfl
  | [p] => by
    have e : dueM ns rs true [p] = form0 := by cases p <;> rfl
    rw [e]
    have e2 : papQ ns rs [p] = false := by cases p <;> rfl
    unfold flawM
    rw [e2, if_neg (by decide)]
  | [q, p] => by
    cases q with
    | str wd =>
      show (if papQ ns rs [.str wd, p] = true then flawIn rs [.str wd, p] else form0) = due2 ns rs wd p
      show (if ((decide (wd = "fits") && ordQ ns p) || (decide (wd = "stuck") && lotQ rs p)) = true then _ else _) = _
      unfold due2
      rw [lot_eq hm]
      by_cases h1 : wd = "fits" ∧ ordQ ns p = true
      · obtain ⟨o, rfl⟩ := ordQ_ord' h1.2
        rw [if_pos (by rw [h1.2, decide_eq_true h1.1]; rfl), if_pos h1]
        exact unb_eq rs o
      · rw [if_neg h1]
        by_cases h2 : wd = "stuck" ∧ lotL (rs.map Prod.fst) p = true
        · obtain ⟨its, rfl, _⟩ := lotL_seq h2.2
          rw [if_pos (by rw [h2.2, decide_eq_true h2.1]; exact Bool.or_true _), if_pos h2]
          exact stuck_eq _
        · rw [if_neg h2, if_neg]
          rw [Bool.or_eq_true, Bool.and_eq_true, Bool.and_eq_true, decide_eq_true_eq, decide_eq_true_eq]
          exact fun h => h.elim h1 h2
    | non => rfl
    | bl _ => rfl
    | int _ => rfl
    | seq t _ => rfl
    | dic => rfl
    | ord _ => rfl
    | row _ => rfl
  | [x, p, q] => by
    cases x with
    | str wd =>
      show (if ((decide (wd = "follows") && (rowQ ns p && lotQ rs q)) || (decide (wd = "open") && (rowQ ns p && ordQ ns q))) = true then flawIn rs [.str wd, p, q] else form0) = due3 ns rs wd p q
      rw [lot_eq hm, row_eq]
      by_cases h0 : rowL ns p = true
      · obtain ⟨r, rfl⟩ := rowL_row h0
        have e3 : due3 ns rs wd (.row r) q = (if wd = "follows" ∧ lotL (rs.map Prod.fst) q = true then (match q with | .seq _ its => lFollow r (lotOf rs (its.map D.txt)) | _ => form0) else if wd = "open" ∧ ordQ ns q = true then (match q with | .ord o => if (lUnb rs o).isNone = true ∧ lbears o r = true then some ("borne", none) else lUnb rs o | _ => form0) else form0 : Fl) := by
          show (if rowL ns (.row r) = false then form0 else _) = _
          rw [if_neg (by rw [h0]; decide)]
          all_goals rfl
        rw [e3, h0, Bool.true_and, Bool.true_and]
        by_cases h1 : wd = "follows" ∧ lotL (rs.map Prod.fst) q = true
        · obtain ⟨its, rfl, _⟩ := lotL_seq h1.2
          rw [if_pos (by rw [h1.2, decide_eq_true h1.1]; rfl), if_pos h1]
          exact grounds_eq _
        · rw [if_neg h1]
          by_cases h2 : wd = "open" ∧ ordQ ns q = true
          · obtain ⟨o, rfl⟩ := ordQ_ord' h2.2
            rw [if_pos (by rw [h2.2, decide_eq_true h2.1]; exact Bool.or_true _), if_pos h2]
            exact open_eq rs r o
          · rw [if_neg h2, if_neg]
            rw [Bool.or_eq_true, Bool.and_eq_true, Bool.and_eq_true, decide_eq_true_eq, decide_eq_true_eq]
            exact fun h => h.elim h1 h2
      · have h0 : rowL ns p = false := by cases h : rowL ns p with
          | true => exact absurd h h0
          | false => rfl
        rw [rowL_not h0, h0, if_neg (by simp)]
    | non => rfl
    | bl _ => rfl
    | int _ => rfl
    | seq t _ => rfl
    | dic => rfl
    | ord _ => rfl
    | row _ => rfl
  | x :: _ :: _ :: _ :: _ => by cases x <;> rfl
end FD
end
section
set_option maxHeartbeats 2000000
/-! the law -/
namespace FD
open PySem PySem.Spec PyProof.Rows L2
/-! ### rules -/
def swapL {α : Type} (us ws : List α) : List α := match us, ws with
  | [], [a, b] => [b, a]
  | _, _ => []
theorem kb_flaw {K : PySem.W.Frag} {x qual : Str} {st : Stmt} {f : Addr} {fd : FuncData} {p1 p2 : Str} (F : Fun K x qual st f fd)
    (h : ∀ (kV doc pm : Value) (an : Option Addr) (cdv ct : Value) (a b : Value), bindArgs (PySem.W.fnOf x qual (defArgs st) (defBody st) (defScope st) .none kV doc pm an cdv ct) ⟨[], [(p2, a), (p1, b)]⟩ = pure [(p1, b), (p2, a)]) : KBinds K fd [p1, p2] [p2, p1] swapL swapL := by
  obtain ⟨oc, od, kV, doc, pm, an, cdv, ct, osl, rfl, lk, hcd⟩ := F.ex
  refine ⟨fun s us ws X hl => ?_, fun {vs us zs ws} r1 r2 => ?_⟩
  · match us, ws, hl with
    | [], [a, b], _ => exact BindsTo.of_eq (h kV doc pm an cdv ct a b)
    | [], [], hl => cases hl
    | [], [_], hl => cases hl
    | [], _ :: _ :: _ :: _, hl => cases hl
    | _ :: _, _, hl => cases hl
  · cases r1 with
    | cons a t => exact .nil
    | nil =>
      cases r2 with
      | nil => exact .nil
      | cons a t =>
        cases t with
        | nil => exact .nil
        | cons b t =>
          cases t with
          | nil => exact .cons b (.cons a .nil)
          | cons c t => exact .nil
/-- a def that is called by keywords, the second parameter first -/
structure Kw (P : Program) (w : World) (K : PySem.W.Frag) (mg : Str → Option Value) (base : Heap) (x p1 p2 : Str) (k : Nat) (sp : Sp) : Prop where
  ex : ∃ f fd, mg x = some (.ref f) ∧ PySem.W.keepIn K (.ref f) = true ∧ FnOk P w K mg base CX0 k f fd [p1, p2] sp ∧ KBinds K fd [p1, p2] [p2, p1] swapL swapL
section
variable {X : Cx} {g : Bg} {ρ : List Slot} {a b : Expr} {d1 d2 : D} {x p1 p2 : Str} {p pos k1 k2 : Pos} {k : Nat} {ι : Type} {pre : ι → List D} {post : ι → D → Prop} {P : D → Prop} {ds : List D}
theorem jd_kw (F : Kw X.prog X.w X.K X.mg X.base x p1 p2 k (Pro pre post)) (i : ι) (hr : Room k X.A) (ha : JD X g ρ a d2) (hb : JD X g ρ b d1) (hi : pre i = [d1, d2]) (hg : Gl X x := by rfl)
    (hall : (backToKw pos (keywordEach [⟨some p2, a, k1⟩, ⟨some p1, b, k2⟩] X.env)).all (·.1.isSome) = true := by rfl) (hks : (backToKw pos (keywordEach [⟨some p2, a, k1⟩, ⟨some p1, b, k2⟩] X.env)).filterMap (·.1) = [p2, p1] := by rfl)
    (hdb : (x == ("__debug__" : Str)) = false := by decide) (hpl : ((backTo pos (starEach [] X.env)).any (·.1) || (backToKw pos (keywordEach [⟨some p2, a, k1⟩, ⟨some p1, b, k2⟩] X.env)).any (·.1.isNone)) = false := by rfl) (hp : ∀ d, post i d → P d := by intro _ h; exact h) :
    J X g ρ (.Call (.Name x p) [] [⟨some p2, a, k1⟩, ⟨some p1, b, k2⟩] pos) P := by
  obtain ⟨f, fd, hm, hk, F, kb⟩ := F.ex
  exact j_of (pe_kw0 F hr hg hm hk kb (pk_cons pe_W (pk_cons pe_W pk_nil)) hall hks hdb hpl) fun B σ M H E Q q => ha.at_ E fun d v M1 H1 q1 E1 s1 i1 => hb.at_ E1 fun d' v' M2 H2 q2 E2 s2 i2 => by
    subst q1 q2
    exact ⟨i, M2, E2.at_.sub, hi ▸ .cons i2 (.cons (i1.mono s2.mm) .nil), fun d v M3 H3 p3 s3 i3 => q d v M3 H3 (hp d p3) ((s1.trans s2).trans (s3.lift E2.at_)) i3⟩
theorem jd_dic0 : JD X g ρ (.Dict [] [] pos) (.dic []) := j_of pe_dnewK fun B σ M H E Q q => fun r hr => q.new E.at_ hr rfl fun M' s h => .dic h .nil
theorem IsL.rep {M : Hp} {ds : List D} {vs : List V} (l : IsL M ds vs) : ∀ n : Nat, IsL M (List.replicate n ds).flatten (List.replicate n vs).flatten
  | 0 => .nil
  | n + 1 => by
    rw [List.replicate_succ, List.replicate_succ, List.flatten_cons, List.flatten_cons]
    exact l.append (l.rep n)
theorem jd_rep {n : Nat} (ha : JD X g ρ a (.lst ds)) (hb : JD X g ρ b (.int (n : Nat))) (hn : n ≤ 1000) (hz : ds.length * n ≤ 1000) : JD X g ρ (.BinOp a .Mult b pos) (.lst (List.replicate n ds).flatten) := j_op op_rep ha hb (by
  rintro _ _ v1 v2 M H rfl rfl A i1 i2 Q q
  cases i2
  cases i1 with
  | lst e il =>
    refine ⟨_, _, _, rfl, rfl, A.sub _ _ e, by omega, by omega, ?_, fun r hr => q.new A hr rfl fun M' s h => .lst h ?_⟩
    · rw [il.length, Int.toNat_natCast, sizeLine_eq]
      omega
    · rw [Int.toNat_natCast]
      exact (il.mono s).rep n)
end
/-! ### what is asked, what is due -/
theorem bk_of {ms : List Str} {rs : List Rc} (hm : Nq5 ms) (h : Rcs ms rs) : BkOk ms rs := by
  have l := h.ls
  have l8 := h.l8
  have n5 := hm.n5
  exact ⟨hm.n, hm.n0, by omega, h.m, by omega, fun r hr => (h.q r hr).ok, fun r hr => (h.q r hr).cov, l.sb.fw, l.sb.fw2⟩
section
variable {K : PySem.W.Frag} {mg : Str → Option Value} (T : Mo K mg)
theorem rl_part {p : Pa} (h : PaOk T p) (hf : ∀ t its, p = .seq t its → ∀ e ∈ its, e.flat = true ∨ e = .tup []) : Rl T 2 (pD p) (aD T p) := by
  cases p with
  | non => exact .inl (.inl (.inl ⟨rfl, rfl⟩))
  | bl b => exact .inl (.inl (.inl ⟨rfl, rfl⟩))
  | int b => exact .inl (.inl (.inl ⟨rfl, rfl⟩))
  | str b => exact .inl (.inl (.inl ⟨rfl, rfl⟩))
  | dic => exact .inl (.inl (.inr (.inr (.inr ⟨rfl, rfl⟩))))
  | ord o => exact .inl (.inl (.inr (.inl ⟨o, h, rfl, rfl⟩)))
  | row r => exact .inl (.inl (.inr (.inr (.inl ⟨r, h.1, rfl, by show rowI T r = rowI T (rowS r); unfold rowS; rw [h.2.1, h.2.2]⟩))))
  | seq t its =>
    have e : (its.map fun e => (e, e)).map Prod.fst = its ∧ (its.map fun e => (e, e)).map Prod.snd = its := ⟨by rw [List.map_map]; exact List.map_id its, by rw [List.map_map]; exact List.map_id its⟩
    refine .inr ⟨t, its.map fun e => (e, e), by rw [e.1]; rfl, by rw [e.2]; rfl, by rw [List.length_map]; exact h.1, fun p hp => ?_⟩
    obtain ⟨e, he, rfl⟩ := List.mem_map.mp hp
    rcases hf t its rfl e he with h1 | rfl
    · exact .inl (.inl ⟨h1, rfl⟩)
    · exact .inr ⟨true, [], rfl, rfl, by decide, fun _ h => nomatch h⟩
theorem rl_paper {ps : List Pa} (h : Bp T ps) (t : Bool) : Rl T 3 (sqD t (ps.map pD)) (sqD t (ps.map (aD T))) := by
  refine .inr ⟨t, ps.map fun p => (pD p, aD T p), by rw [List.map_map]; rfl, by rw [List.map_map]; rfl, by rw [List.length_map]; have := h.ln; omega, fun q hq => ?_⟩
  obtain ⟨p, hp, rfl⟩ := List.mem_map.mp hq
  exact rl_part T (h.ok p hp) fun t its e => h.fl t its (e ▸ hp)
theorem vq_paper {b : Bq} {ps : List Pa} (h : Bp T ps) (t : Bool) : ∃ v : Vq T, v.d T = sqD t (ps.map (aD T)) ∧ v.fl T b = dueM b.1.1 b.1.2 t ps := by
  cases t with
  | true => exact ⟨.inr ⟨ps, h.ok, by have := h.ln; omega, h.wd⟩, rfl, plain b.2.m ps⟩
  | false => exact ⟨.inl ⟨.lst (ps.map (aD T)), ⟨_, rfl⟩, rfl⟩, rfl, rfl⟩
theorem lk_fl (f : Fl) : Lk 1 (flD f) := by
  cases f with
  | none => exact .inl (.inl rfl)
  | some p =>
    obtain ⟨a, o⟩ := p
    refine .inr ⟨true, [.str a, oStr o], rfl, by show 2 ≤ 1000; decide, fun e he => ?_⟩
    rcases List.mem_cons.mp he with rfl | he
    · exact .inr ⟨a, rfl⟩
    · rw [List.mem_singleton] at he
      subst he
      cases o with
      | none => exact .inl rfl
      | some z => exact .inr ⟨z, rfl⟩
theorem vq_odd (b : Bq) : ∀ d ∈ odds, ∃ v : Vq T, v.d T = d ∧ v.fl T b = form0 := by
  intro d hd
  have flat : ∀ d : D, Tp T d → d.isTup = false → ∃ v : Vq T, v.d T = d ∧ v.fl T b = form0 := fun d h1 h2 => ⟨.inl ⟨d, h1, h2⟩, rfl, rfl⟩
  have hss : ∀ e ∈ ([.str "a"] : List D), ItOk T e := fun e he => by
    rw [List.mem_singleton] at he
    subst he
    exact it_str T (by decide)
  simp only [odds, List.mem_cons, List.not_mem_nil, or_false] at hd
  rcases hd with rfl | rfl | rfl | rfl | rfl | rfl | rfl | rfl | rfl | rfl | rfl | rfl | rfl | rfl | rfl
  · exact flat _ ⟨_, rfl⟩ rfl
  · exact flat _ ⟨_, rfl⟩ rfl
  · exact flat _ ⟨_, rfl⟩ rfl
  · exact flat _ ⟨_, rfl⟩ rfl
  · exact flat _ ⟨_, rfl⟩ rfl
  · exact flat _ ⟨_, rfl⟩ rfl
  · exact flat _ ⟨_, rfl⟩ rfl
  · exact flat _ ⟨_, rfl⟩ rfl
  · exact flat _ ⟨_, rfl⟩ rfl
  · exact ⟨.inr ⟨[], (fun _ h => nomatch h), by decide, .inl (by decide)⟩, rfl, rfl⟩
  · exact flat _ ⟨_, rfl⟩ rfl
  · exact ⟨.inr ⟨[.str "a"], fun p hp => by rw [List.mem_singleton] at hp; subst hp; show _ ≤ 1000; decide, by show 1 ≤ 1000; decide, .inl (by show 1 ≤ 3; decide)⟩, rfl, rfl⟩
  · exact flat _ ⟨_, rfl⟩ rfl
  · exact ⟨.inr ⟨[.seq true [.str "a"]], fun p hp => by rw [List.mem_singleton] at hp; subst hp; exact ⟨by show 1 ≤ 1000; decide, hss⟩, by show 1 ≤ 1000; decide, .inl (by show 1 ≤ 3; decide)⟩, rfl, rfl⟩
  · exact ⟨.inr ⟨[.non, .int 1], fun p hp => by
      rcases List.mem_cons.mp hp with rfl | hp
      · trivial
      · rw [List.mem_singleton] at hp; subst hp; trivial, by show 2 ≤ 1000; decide, .inl (by show 2 ≤ 3; decide)⟩, rfl, rfl⟩
end
section
variable {P : Program} {w : World} {K : PySem.W.Frag} {mg : Str → Option Value} {base : Heap} (T : Mo K mg)
abbrev s_law : Stmt := top 180
abbrev N_law : List Str := ["_law_script", "_law_bag", "_law_names_here", "_law_records_here", "_law_turn", "_law_odd_here", "_law_tome", "_law_left", "_law_paper", "_law_due_here", "_law_asked", "_law_one"]
theorem sc_law : FnScope N_law ["_law_script"] (defScope s_law) := ⟨rfl, rfl, rfl, by decide +kernel, rfl, by decide +kernel, by decide +kernel⟩
/-- the law gives True -/
def SpLaw (K : PySem.W.Frag) : Sp := fun vs H Q _ => ∃ (ns : List Int) (a : Addr), ns.length ≤ 63 ∧ vs = [.ref a] ∧ SqL K H a (ns.map V.int) ∧ ∀ H', Q (.bl true) H'
/-- every def that the law calls -/
structure Calls (P : Program) (w : World) (K : PySem.W.Frag) (mg : Str → Option Value) (base : Heap) (T : Mo K mg) : Prop where
  draws : Fd P w K mg base "_law_draws" 1 (SpDraws K)
  any : Fd P w K mg base "_law_any" 2 SpAny
  names : Fd P w K mg base "_law_names" 3 P_l_names
  records : Fd P w K mg base "_law_records" 4 P_l_records
  idle : Fd P w K mg base "_law_with_idle" 2 P_l_with_idle
  book : Fd P w K mg base "_law_book" 7 (P_l_book T)
  fitting : Fd P w K mg base "_law_fitting" 2 P_l_fitting
  some_ : Fd P w K mg base "_law_some_paper" 5 (P_l_some_paper T)
  bent : Fd P w K mg base "_law_bent_paper" 4 (P_l_bent_paper T)
  due : Fd P w K mg base "_law_due" 3 (P_l_due T)
  real : Fd P w K mg base "_law_real" 10 (P_l_real T 3)
  like1 : Fd P w K mg base "_law_like" 2 (P_l_like 1)
  like2 : Fd P w K mg base "_law_like" 3 (P_l_like 2)
  flaw : Fd P w K mg base "flaw" 9 (P_flaw T)
  kw : Kw P w K mg base "flaw" "book" "value" 9 (P_flaw T)
  odd : Fd P w K mg base "_law_odd" 3 P_l_odd
def manyN : List Nat := [3, 4, 2, 3, 1, 4, 3, 5]
def manyR : List Nat := [4, 5, 3, 6, 2, 7, 8, 1, 0]
theorem law_ss (C : Calls P w K mg base T) {f : Addr} {cdv : Value} {A : Around} {outer : List PySem.Env} {s : Shared} {H : Hp} {E : XK} (hr : Room 10 (Xc P w K mg base N_law "law" s_law f cdv A outer s H E).A) (b : Addr) (ns : Addr × List Int) (sc : D) :
    SS (Xc P w K mg base N_law "law" s_law f cdv A outer s H E) (some (b, ns)) (poOf fun d => d = .bl true) [.ro sc, .ro (.adr b), .any, .any, .any, .any, .any, .any, .any, .any, .any, .any] ((defBody s_law).drop 1) := by
  have nd := sc_law.nd
  have hr1 := hr.mono (show 1 ≤ 10 by decide)
  have hr2 := hr.mono (show 2 ≤ 10 by decide)
  have hr3 := hr.mono (show 3 ≤ 10 by decide)
  have hr4 := hr.mono (show 4 ≤ 10 by decide)
  have hr5 := hr.mono (show 5 ≤ 10 by decide)
  have hr7 := hr.mono (show 7 ≤ 10 by decide)
  have hr9 := hr.mono (show 9 ≤ 10 by decide)
  -- the names
  refine ss_set (P := fun d => ∃ ms, Nq5 ms ∧ d = sL ms) 2 nd (j_fb (Ps := fun ds => ∃ n : Nat, 1 ≤ n ∧ n ≤ 5 ∧ ds = [.adr b, .int (n : Nat)]) C.names hr3 (JA.imp (ja_cons (P := fun d => d = .adr b) (jv 1) (ja_cons (P := fun d => d ∈ manyN.map fun n => D.int (n : Nat)) (j_any (P1 := fun d => d = .lst (manyN.map fun n => D.int (n : Nat))) C.any hr2 (jv 1) (jd_lst (ds := manyN.map fun n => D.int (n : Nat)) (jac j_int (jac j_int (jac j_int (jac j_int (jac j_int (jac j_int (jac j_int (jac j_int jan))))))))) ?_) ja_nil)) ?_) ?_) ?_
  · rintro _ rfl
    exact ⟨_, rfl, by decide, by decide, fun x hx => hx⟩
  · rintro _ ⟨_, _, rfl, rfl, _, _, rfl, h, rfl⟩
    obtain ⟨n, hn, rfl⟩ := mem_ints h
    have h2 : ∀ n ∈ manyN, 1 ≤ n ∧ n ≤ 5 := by decide
    exact ⟨n, (h2 n hn).1, (h2 n hn).2, rfl⟩
  · rintro _ ⟨n, h1, h5, rfl⟩
    refine ⟨⟨n, by omega⟩, rfl, ?_⟩
    rintro _ ⟨ss, q1, q2, rfl⟩
    exact ⟨ss, ⟨q1, by rw [q2]; exact h1, by rw [q2]; exact h5⟩, rfl⟩
  rintro _ ⟨ms, hm, rfl⟩
  have n5 := hm.n5
  -- the records
  refine ss_set (P := fun d => ∃ rs, Rcs ms rs ∧ d = .lst (rs.map rcD)) 3 nd (j_fb (Ps := fun ds => ∃ n : Nat, n ≤ 8 ∧ ds = [.adr b, sL ms, .int (n : Nat)]) C.records hr4 (JA.imp (ja_cons (P := fun d => d = .adr b) (jv 1) (ja_cons (P := fun d => d = sL ms) (jv 2) (ja_cons (P := fun d => d ∈ manyR.map fun n => D.int (n : Nat)) (j_any (P1 := fun d => d = .lst (manyR.map fun n => D.int (n : Nat))) C.any hr2 (jv 1) (jd_lst (ds := manyR.map fun n => D.int (n : Nat)) (jac j_int (jac j_int (jac j_int (jac j_int (jac j_int (jac j_int (jac j_int (jac j_int (jac j_int jan)))))))))) ?_) ja_nil))) ?_) ?_) ?_
  · rintro _ rfl
    exact ⟨_, rfl, by decide, by decide, fun x hx => hx⟩
  · rintro _ ⟨_, _, rfl, rfl, _, _, rfl, rfl, _, _, rfl, h, rfl⟩
    obtain ⟨n, hn, rfl⟩ := mem_ints h
    have h2 : ∀ n ∈ manyR, n ≤ 8 := by decide
    exact ⟨n, h2 n hn, rfl⟩
  · rintro _ ⟨n, h8, rfl⟩
    exact ⟨⟨(ms, n), ⟨hm.n, n5⟩, h8⟩, rfl, fun d h => h⟩
  rintro _ ⟨rs0, hR0, rfl⟩
  refine ss_set (P := fun d => ∃ rs, Rcs ms rs ∧ d = .lst (rs.map rcD)) 3 nd (jd_fb C.idle ⟨(ms, rs0), hR0⟩ hr2 (jac (jv 1) (jac (jv 3) jan))) ?_
  rintro _ ⟨rs, hR, rfl⟩
  have r8 := hR.l8
  have hb := bk_of hm hR
  let bq : Bq := ⟨(ms, rs), hb⟩
  -- the book, the orders that fit
  refine ss_par (P1 := fun d => d = bookI T ms rs) (P2 := fun d => ∃ L, Pm ms ms.length L ∧ d = .lst (L.map sT)) 6 7 rfl nd (jd_f C.book ⟨(ms, rs), hb, fun r hr => (hR.q r hr).so⟩ hr7 (jac (jv 2) (jac (jv 3) jan))) (jd_f C.fitting ⟨(ms, rs.map fun r => (true, r.2)), ⟨hm.n, n5⟩, by show (rs.map _).length ≤ 60; rw [List.length_map]; omega⟩ hr2 (jac (jv 2) (jac (j_eq (jd_lcm (own := [("_law_one", 11)]) rs rcD (fun r => prD r.2) rfl nd (blkOk_by (by kernel_rfl)) (ji (ds := rs.map rcD) (jv 3) (by rw [List.length_map]; omega) (.inl rfl)) fun r _ => ⟨_, fun _ _ _ _ _ => jg_name (i := 11) nd rfl (by first | exact Or.inl rfl | exact Or.inr rfl) (by decide), fun _ _ _ _ _ => jd_ix (d1 := rcD r) (jv 11) j_int at1 (.inr rfl)⟩) (by show D.lst _ = D.lst ((rs.map fun r => (true, r.2)).map _); rw [List.map_map]; rfl)) jan))) ?_
  rintro _ _ rfl ⟨L, hL, rfl⟩
  -- the papers
  refine ss_for [4] rfl PassesOwn.never (ji_range T (i := 24) j_int (by decide) (by decide)) (fun its i ρ1 => ∃ (t4 t8 t9 t10 : Slot), ρ1 = [.ro sc, .ro (.adr b), .ro (sL ms), .ro (.lst (rs.map rcD)), t4, .any, .ro (bookI T ms rs), .ro (.lst (L.map sT)), t8, t9, t10, .any]) (fun its e => ⟨_, _, _, _, rfl⟩) ?_ ?_
  · rintro _ i d ρ1 rfl hd ⟨t4, t8, t9, t10, rfl⟩
    obtain ⟨z, rfl⟩ : ∃ z : Int, d = .int z := by
      unfold rng at hd
      rw [List.getElem?_map] at hd
      cases q : (List.range (24 : Int).toNat)[i]? with
      | none => rw [q] at hd; cases hd
      | some k => rw [q] at hd; cases hd; exact ⟨_, rfl⟩
    refine ⟨_, jg_name (i := 4) nd rfl (by first | exact Or.inl rfl | exact Or.inr rfl) (by decide), ?_⟩
    refine ss_set (P := fun d => ∃ t qs, Bp T qs ∧ d = sqD t (qs.map pD)) 8 nd (j_fb (Ps := fun ds => ∃ ps, Pp T ps ∧ ds = [.adr b, .tup (ps.map pD), sL ms]) C.bent hr4 (JA.imp (ja_cons (P := fun d => d = .adr b) (jv 1) (ja_cons (P := fun d => ∃ ps, Pp T ps ∧ d = .tup (ps.map pD)) ?_ (ja_cons (P := fun d => d = sL ms) (jv 2) ja_nil))) ?_) ?_) ?_
    · refine jd_fb C.some_ ⟨(ms, rs, L), hm, hR, hL⟩ hr5 ?_
      exact jac (jv 1) (jac (jv 2) (jac (jv 3) (jac (jv 7) jan)))
    · rintro _ ⟨_, _, rfl, rfl, _, _, rfl, ⟨ps, hps, rfl⟩, _, _, rfl, rfl, rfl⟩
      exact ⟨ps, hps, rfl⟩
    · rintro _ ⟨ps, hps, rfl⟩
      exact ⟨⟨(ps, ms), hps, hm⟩, rfl, fun d h => h⟩
    rintro _ ⟨t, qs, hq, rfl⟩
    obtain ⟨v, hv1, hv2⟩ := vq_paper T (b := bq) hq t
    refine ss_par (P1 := fun d => d = flD (dueM ms rs t qs)) (P2 := fun d => d = sqD t (qs.map (aD T))) 9 10 rfl nd ?_ ?_ ?_
    · refine jd_f C.due ⟨(bq, t, qs), ⟨hq.ok, hq.fw, by show qs.length ≤ 1000; have := hq.ln; omega⟩⟩ hr3 ?_
      exact jac (jv 2) (jac (jv 3) (jac (jv 8) jan))
    · refine jd_f C.real ⟨(sqD t (qs.map pD), sqD t (qs.map (aD T))), rl_paper T hq t⟩ hr ?_
      exact jac (jv 8) jan
    rintro _ _ rfl rfl
    have hfl : flD (v.fl T bq) = flD (dueM ms rs t qs) := congrArg flD hv2
    refine ss_ifNo (u := false) (jt_eq (jt_not (jt_val (u := true) ?_)) rfl) rfl ?_
    · refine jd_f C.like1 ⟨flD (dueM ms rs t qs), lk_fl _⟩ hr2 ?_
      refine jac ?_ (jac (jv 9) jan)
      refine j_eq (jd_f C.flaw (bq, v) hr9 ?_) hfl
      exact jac (jv 6) (jac (j_eq (jv 10) hv1.symm) jan)
    refine ss_ifNo (u := decide (z = 23) && false) (JW.t (jw_and (jt_eqI (jv 4) j_int) fun _ => jw_and1 (jt_eq (jt_not (jt_val (u := true) ?_)) rfl))) (Bool.and_false _) ?_
    · refine jd_f C.like1 ⟨flD (dueM ms rs t qs), lk_fl _⟩ hr2 ?_
      refine jac ?_ (jac (jv 9) jan)
      refine j_eq (jd_kw C.kw (bq, v) hr9 (jv 10) (jv 6) ?_) hfl
      show [bookI T ms rs, v.d T] = _
      rw [hv1]
    exact ss_nil ⟨_, _, _, _, rfl⟩
  · rintro _ ρ1 rfl ⟨t4, t8, t9, t10, rfl⟩
    refine ss_set (P := fun d => d ∈ odds) 5 nd (jd_fb C.odd () hr3 (jac (jv 1) jan)) ?_
    intro od hod
    obtain ⟨v, hv1, hv2⟩ := vq_odd T bq od hod
    have hfl : flD (v.fl T bq) = flD form0 := congrArg flD hv2
    let F : D := flD form0
    refine ss_retD (d := .bl true) (jd_f C.like2 ⟨.lst [F, F, F], .inr ⟨false, [F, F, F], rfl, by show 3 ≤ 1000; decide, fun e he => by
      simp only [List.mem_cons, List.not_mem_nil, or_false, or_self] at he
      exact he ▸ lk_fl form0⟩⟩ hr3 ?_) rfl
    refine jac ?_ ?_
    · refine jd_lst ?_
      refine jac ?_ ?_
      · exact j_eq (jd_f C.flaw (bq, v) hr9 (jac (jv 6) (jac (j_eq (jv 5) hv1.symm) jan))) hfl
      refine jac ?_ ?_
      · exact jd_f C.flaw (bq, .inl ⟨.dic [], ⟨_, rfl⟩, rfl⟩) hr9 (jac (jv 6) (jac jd_dic0 jan))
      refine jac ?_ ?_
      · exact jd_f C.flaw (bq, .inl ⟨bookI T ms rs, tp_book T ms rs, rfl⟩) hr9 (jac (jv 6) (jac (jv 6) jan))
      exact jan
    refine jac ?_ jan
    refine jd_rep (n := 3) (ds := [F]) ?_ j_int (by decide) (by show 1 * 3 ≤ 1000; decide)
    refine jd_lst ?_
    refine jac ?_ jan
    refine jd_tup ?_
    refine jac ?_ ?_
    · exact j_str
    refine jac ?_ jan
    exact j_non
end
section
variable {P : Program} {w : World} {K : PySem.W.Frag} {mg : Str → Option Value} {base : Heap} (T : Mo K mg)
include T
theorem F_law {f : Addr} {fd : FuncData} (G : Fun K "law" "law" s_law f fd) (C : Calls P w K mg base T) : FnOk P w K mg base CX0 11 f fd ["_law_script"] (SpLaw K) := by
  refine G.ok (k := 10) sc_law (fun vs H Q E ⟨ns, a, _, e, _⟩ => by rw [e]; rfl) ?_
  rintro cdv A outer s H vs Q E hr ⟨ns, a0, h63, rfl, hsq, q⟩
  refine ⟨_, pss_W, ?_⟩
  have nd := sc_law.nd
  have hr1 : Room 1 (A.deeper (envOfC "law" (defScope s_law) s.heap.objs.size f cdv)) := hr.mono (by decide)
  refine b_cons (w_s (ps_set (i := 1) nd rfl (by first | exact Or.inl rfl | exact Or.inr rfl) (pe_f C.draws hr1 (pa_cons pe_W pa_nil))) ?_)
  refine (q_var 0 rfl : Jp _ _ H _ (.ref a0)) _ ?_
  refine ⟨ns, a0, h63, rfl, hsq, fun b l M' H' hb A' => ?_⟩
  have E1 := ev_start A' (ds := [.adr a0, .adr b]) (.cons (.adr a0) (.cons (.adr b) .nil)) 10
  exact law_ss T C hr b (l, ns) (.adr a0) ⟨M', H'⟩ _ M' H' _ E1 ⟨(fun d v M2 H2 p st iv => by
    subst p
    cases iv
    exact q H2), (fun _ _ _ _ p => by cases p), (fun _ _ _ _ z => False.elim z), (fun _ _ _ _ z => False.elim z)⟩
end
end FD
end
section
set_option maxHeartbeats 2000000
/-! what the head must tell, and what follows from it -/
namespace FD
open PySem PySem.Spec PyProof.Rows L2
theorem Fx.ex {K : PySem.W.Frag} {d : Fx} (e : d.w K = d.val) (c : d.ok K = true) : ∃ oc od dV kV doc pm an cdv ct osl, K.lookup (d.at_ K) = some ⟨oc, od, .func (PySem.W.fnOf d.name d.qual (defArgs d.st) (defBody d.st) (defScope d.st) dV kV doc pm an cdv ct), osl⟩ ∧ PySem.W.codeIn K cdv d.qual = true ∧ dflN K dV d.dfl = true ∧ PySem.W.keepIn K (.ref (d.at_ K)) = true := by
  obtain ⟨kp, c2⟩ := He.ba c
  unfold Fx.w at e
  cases q : K.lookup (d.at_ K) with
  | none =>
    rw [q] at c2
    cases c2
  | some o =>
    obtain ⟨oc, od, dt, osl⟩ := o
    rw [q] at c2 e
    cases dt with
    | func fd =>
      obtain ⟨n1, n2, n3, n4, n5, n6, n7, n8, n9, n10, n11, n12, n13, n14, n15⟩ := fd
      have e2 : (some (n1, n2, n3, n4, n5, n6, n7, n15) : He.FnW) = some (d.name, d.qual, defArgs d.st, .stmts (defBody d.st), defScope d.st, mainGlobals, [], builtinsNs) := e
      simp only [Option.some.injEq, Prod.mk.injEq] at e2
      obtain ⟨h1, h2, h3, h4, h5, h6, h7, h8⟩ := e2
      subst h1 h2 h3 h4 h5 h6 h7 h8
      obtain ⟨k1, k2⟩ := He.ba (show (PySem.W.codeIn K n13 d.qual && dflN K n8 d.dfl) = true from c2)
      exact ⟨oc, od, n8, n9, n10, n11, n12, n13, n14, osl, rfl, k1, k2, kp⟩
    | _ => cases c2
theorem Fx.fun_ {K : PySem.W.Frag} {d : Fx} (e : d.w K = d.val) (c : d.ok K = true) (h0 : d.dfl = 0) : ∃ fd, Fun K d.name d.qual d.st (d.at_ K) fd := by
  obtain ⟨oc, od, dV, kV, doc, pm, an, cdv, ct, osl, lk, cd, df, kp⟩ := Fx.ex e c
  rw [h0] at df
  have hn : dV = .none := by
    cases dV with
    | none => rfl
    | _ => cases df
  subst hn
  exact ⟨_, ⟨oc, od, kV, doc, pm, an, cdv, ct, osl, rfl, lk, cd⟩, kp⟩
theorem Fx.fun2 {K : PySem.W.Frag} {d : Fx} (e : d.w K = d.val) (c : d.ok K = true) (h2 : d.dfl = 2) : ∃ fd, Fz K d.name d.qual d.st (d.at_ K) fd := by
  obtain ⟨oc, od, dV, kV, doc, pm, an, cdv, ct, osl, lk, cd, df, kp⟩ := Fx.ex e c
  rw [h2] at df
  cases dV with
  | ref T =>
    have df2 : (match K.lookup T with
      | some ⟨_, _, .seq its _, _⟩ => decide (its.toList.length = 2)
      | _ => false) = true := df
    cases q : K.lookup T with
    | none => rw [q] at df2; cases df2
    | some o =>
      obtain ⟨c1, c2, dt, c4⟩ := o
      rw [q] at df2
      cases dt with
      | seq its n =>
        have hl : its.toList.length = 2 := of_decide_eq_true df2
        obtain ⟨l⟩ := its
        match l, hl with
        | [i1, i2], _ => exact ⟨_, ⟨oc, od, .ref T, kV, doc, pm, an, cdv, ct, osl, rfl, lk, cd, T, _, i1, i2, n, rfl, q, rfl⟩, kp⟩
      | _ => cases df2
  | _ => cases df
section
variable {P : Program} {w : World} {K : PySem.W.Frag} {mg : Str → Option Value} {h : Heap} {base : Heap}
theorem Says.b (S : Says w K) : chk K = true ∧ (fxs.all fun d => d.ok K) = true := He.ba (show (chk K && fxs.all fun d => d.ok K) = true from congrArg (fun z : AlH => z.1) S)
theorem Says.c (S : Says w K) (i : Nat) {f : PySem.W.Frag → Bool} (e : chks[i]? = some f := by rfl) : f K = true := List.all_eq_true.mp S.b.1 f (List.mem_of_getElem? e)
theorem Says.at_ (S : Says w K) (i : Nat) {d : Fx} (e : fxs[i]? = some d) : d.w K = d.val ∧ d.ok K = true := by
  have e1 : fxs.map (fun d => d.w K) = fxs.map Fx.val := congrArg (fun z : AlH => z.2.1) S
  have e2 : (fxs.map fun d => d.w K)[i]? = (fxs.map Fx.val)[i]? := by rw [e1]
  rw [List.getElem?_map, List.getElem?_map, e] at e2
  exact ⟨Option.some.inj e2, List.all_eq_true.mp S.b.2 d (List.mem_of_getElem? e)⟩
theorem Says.def_ (S : Says w K) (i : Nat) {d : Fx} (e : fxs[i]? = some d) (h0 : d.dfl = 0) : ∃ fd, Fun K d.name d.qual d.st (d.at_ K) fd := Fx.fun_ (S.at_ i e).1 (S.at_ i e).2 h0
theorem Says.fr (S : Says w K) (x : Str) (hx : x ∈ frees) : (He.Fa.free x).ok K = true := List.all_eq_true.mp (S.c 0) x hx
theorem Says.gl (S : Says w K) (x : Str) (hx : x ∈ gnames) : (He.Fa.glo x).ok K = true := List.all_eq_true.mp (S.c 1) x hx
theorem Says.me (S : Says w K) (m : Str × Str) (hx : m ∈ meths) : (He.Fa.meth m.1 m.2).ok K = true := List.all_eq_true.mp (S.c 2) m hx
theorem Says.cl (S : Says w K) (C : Str) (hx : C ∈ clss) : Cls K (He.ga K C) ∧ Mk K (He.ga K C) (He.ma K (He.ga K C) "__init__") ∧ PySem.W.findIn K (.ref (He.ga K C)) "__class__" = some (some (.builtin "object.__class__")) ∧ PySem.W.mroIn K (He.ga K C) (.type "object") = some true := by
  obtain ⟨h1, h2⟩ := He.ba (show okCl K C = true from List.all_eq_true.mp (S.c 3) C hx)
  obtain ⟨h3, h4⟩ := He.ba h2
  obtain ⟨h5, h6⟩ := He.ba h4
  exact ⟨He.cls_ok h1, He.mkr_ok h3, He.eqO_ok h5, of_decide_eq_true h6⟩
theorem Says.no (S : Says w K) (p : Str × Str) (hx : p ∈ flds) : NoAttr K (He.ga K p.1) p.2 := He.noat_ok (List.all_eq_true.mp (S.c 4) p hx)
theorem Says.kit (S : Says w K) (t u : Tg) (h1 : t ∈ tgs) (h2 : u ∈ tgs) (hn : u ≠ .non) : PySem.W.kitOne K (tv K t) (tv K u) = some (t.is u) := by
  have h3 := List.all_eq_true.mp (List.all_eq_true.mp (show okKit K = true from S.c 5) t h1) u h2
  rw [Bool.or_eq_true] at h3
  rcases h3 with h3 | h3
  · exact absurd (of_decide_eq_true h3) hn
  · exact of_decide_eq_true h3
theorem okRead_ok {C : Str} (c : okRead K C = true) : ClX.CRead K (He.ga K C) mT := by
  obtain ⟨h1, h2⟩ := He.ba c
  exact ⟨h1, He.eqO_ok h2⟩
theorem okMost_ok (c : okMost K = true) : ∃ u, ClX.CVal K (He.ga K "Book") mT "MOST" (.int 40) u := by
  unfold okMost at c
  split at c
  · rename_i j t e
    have := of_decide_eq_true c
    subst this
    exact ⟨_, e, t, rfl⟩
  · cases c
theorem okStat_ok (c : okStat K = true) (r : ClX.CRead K (He.ga K "Order") mT) (kp : PySem.W.keepIn K (.ref (stA K)) = true) : Stm K (He.ga K "Order") mT "read" (He.ma K (He.ga K "Order") "read") (stA K) := by
  obtain ⟨h1, h2⟩ := He.ba c
  refine ⟨r, ?_, ?_, kp⟩
  · split at h1
    · rename_i s q c' e
      obtain ⟨k1, k2⟩ := He.ba h1
      obtain ⟨k3, k4⟩ := He.ba k2
      rw [e, of_decide_eq_true k1, of_decide_eq_true k3, of_decide_eq_true k4]
    · cases h1
  · unfold stA
    split at h2
    · rename_i g rest e
      exact ⟨rest, by rw [e]⟩
    · cases h2
theorem okProp_ok (c : okProp K = true) : PropOf K (He.ga K "Row") "idle" (He.ma K (He.ga K "Row") "idle") (prA K) := by
  obtain ⟨h1, h2⟩ := He.ba c
  obtain ⟨h3, h4⟩ := He.ba h2
  obtain ⟨h5, h6⟩ := He.ba h4
  refine ⟨He.eqO_ok h1, He.eqO_ok h3, of_decide_eq_true h5, ?_⟩
  unfold prA
  split at h6
  · rename_i g rest e
    exact ⟨rest, by rw [e]⟩
  · cases h6
theorem okOwn_ok {m : Str} (c : okOwn K m = true) : PySem.W.findIn K (.ref (He.ga K "Book")) m = some (some (.ref (bA K m))) ∧ PySem.W.isFn K (.ref (bA K m)) = true := by
  obtain ⟨h1, h2⟩ := He.ba c
  exact ⟨He.eqO_ok h1, h2⟩
theorem okAdd_ok (c : okAdd K = true) (o : okOwn K "__add__" = true) : Adds K (He.ga K "Book") (bA K "__add__") none := by
  obtain ⟨h1, h2⟩ := He.ba c
  obtain ⟨h3, h4⟩ := He.ba h2
  obtain ⟨h5, h6⟩ := He.ba h4
  obtain ⟨h7, h8⟩ := He.ba h6
  obtain ⟨fo, e1⟩ := Option.isSome_iff_exists.mp h5
  obtain ⟨ro, e2⟩ := Option.isSome_iff_exists.mp h7
  exact ⟨(okOwn_ok o).1, (okOwn_ok o).2, h1, He.eqO_ok h3, ⟨fo, ro, e1, e2⟩, of_decide_eq_true h8⟩
/-! tables -/
theorem dic_keys {a : Addr} {ks : List Str} (e : He.dicW K a = some (He.keysIn w.params ks)) : ∃ es n, KDict K w a es n ∧ es.toList.map He.keyOf = He.keysIn w.params ks := by
  obtain ⟨es, n, kd⟩ := He.dicW_ok e
  refine ⟨es, n, kd, ?_⟩
  unfold He.dicW at e
  rw [kd.at_] at e
  have e2 : (match decide (("dict" : String) = "dict") && ((#[] : Array (Option Value)).isEmpty && !(a == sysModules)) with
    | true => some (es.toList.map He.keyOf)
    | false => none) = some (He.keysIn w.params ks) := e
  rw [kd.low] at e2
  exact Option.some.inj e2
theorem find_keys {P : Params} {z : Str} : ∀ {es : List DictEntry} {ks : List Str}, es.map He.keyOf = He.keysIn P ks → z ∉ ks → es.find? (·.key.isStr z) = none ∧ es.any (·.refKey) = false
  | [], _, _, _ => ⟨rfl, rfl⟩
  | e :: es, [], h, _ => by cases h
  | e :: es, k :: ks, h, hz => by
    have h1 : He.keyOf e :: es.map He.keyOf = some (k, PyData.keyHash P k) :: He.keysIn P ks := h
    injection h1 with h2 h3
    obtain ⟨i1, i2⟩ := find_keys h3 fun q => hz (List.mem_cons_of_mem _ q)
    have hk : ∃ t, e.key = .str k t := by
      unfold He.keyOf at h2
      split at h2
      · rename_i x t q
        have h4 := (Prod.mk.inj (Option.some.inj h2)).1
        exact ⟨t, by rw [← h4]; exact q⟩
      · cases h2
    obtain ⟨t, hk⟩ := hk
    have hne : ¬ k = z := fun q => hz (q ▸ List.mem_cons_self)
    refine ⟨?_, ?_⟩
    · rw [List.find?_cons]
      have : e.key.isStr z = false := by
        rw [hk]
        show (Value.str k t).isStr z = false
        rw [PySem.W.isStr_of]
        show (k == z) = false
        rw [beq_eq_false_iff_ne]
        exact hne
      rw [this]
      exact i1
    · rw [List.any_cons, i2, Bool.or_false]
      unfold DictEntry.refKey
      rw [hk]
theorem tbl_of {a : Addr} {kvs : List (Str × D)} (e : He.dicW K a = some (He.keysIn w.params (kvs.map Prod.fst))) (nd : (kvs.map Prod.fst).Nodup) (v : ∀ q ∈ kvs, ∃ u v, PySem.W.nsIn K a q.1 = some (some u) ∧ RelV v u ∧ ∀ M, Is M q.2 v) : Tbl K w a kvs := by
  obtain ⟨es, n, kd, hk⟩ := dic_keys e
  refine ⟨es, n, kd, fun z => ?_⟩
  by_cases hz : z ∈ kvs.map Prod.fst
  · obtain ⟨q, hq, rfl⟩ := List.mem_map.mp hz
    obtain ⟨u, v, h1, h2, h3⟩ := v q hq
    have hl : ∀ {l : List (Str × D)}, (l.map Prod.fst).Nodup → q ∈ l → l.lookup q.1 = some q.2 := by
      intro l
      induction l with
      | nil => intro _ h; cases h
      | cons b l ih =>
        intro nd h
        rw [List.map_cons, List.nodup_cons] at nd
        rcases List.mem_cons.mp h with rfl | h
        · simp [List.lookup]
        · have hn : (q.1 == b.1) = false := by
            rw [beq_eq_false_iff_ne]
            exact fun e => nd.1 (e ▸ List.mem_map_of_mem h)
          simp only [List.lookup, hn]
          exact ih nd.2 h
    exact ⟨some u, h1, .inr ⟨u, v, q.2, rfl, hl nd hq, h2, h3⟩⟩
  · obtain ⟨f1, f2⟩ := find_keys hk hz
    refine ⟨none, ?_, .inl ⟨rfl, ?_⟩⟩
    · unfold PySem.W.nsIn
      rw [kd.at_]
      show (match es.toList.find? (·.key.isStr z) with
        | some e => some (some e.val)
        | none => if es.toList.any (·.refKey) then none else some none) = some none
      rw [f1, f2]
      rfl
    · rw [List.lookup_eq_none_iff]
      intro p hp
      exact bne_iff_ne.mpr fun q => hz (q ▸ List.mem_map_of_mem hp)
def kFs (K : PySem.W.Frag) : List (Str × D) := [("fits", .adr (He.ga K "form_fits")), ("stuck", .adr (He.ga K "form_stuck")), ("follows", .adr (He.ga K "form_follows")), ("open", .adr (He.ga K "form_open")), ("some", .adr (He.ga K "form_some")), ("surely", .adr (He.ga K "form_surely")), ("never", .adr (He.ga K "form_never")), ("slips", .adr (He.ga K "form_slips")), ("changes", .adr (He.ga K "form_changes")), ("clerks", .adr (He.ga K "form_clerks"))]
def kXs (K : PySem.W.Frag) : List (Str × D) := [("fits", .adr (He.ga K "flaw_fits")), ("stuck", .adr (He.ga K "flaw_stuck")), ("follows", .adr (He.ga K "flaw_follows")), ("open", .adr (He.ga K "flaw_open")), ("some", .adr (He.ga K "flaw_some")), ("surely", .adr (He.ga K "flaw_surely")), ("never", .adr (He.ga K "flaw_never")), ("slips", .adr (He.ga K "flaw_slips")), ("changes", .adr (He.ga K "flaw_changes")), ("clerks", .adr (He.ga K "flaw_clerks"))]
theorem vals_tbl {a : Addr} {kvs : List (Str × D)} {vs : List (Str × He.Dv)} (e : He.dicW K a = some (He.keysIn w.params words10)) (c : He.valsB K a vs = true) (hk : kvs.map Prod.fst = words10) (hv : ∀ q ∈ kvs, ∃ x ∈ vs, x.1 = q.1 ∧ ∀ M, Is M q.2 (x.2.v K)) : Tbl K w a kvs :=
  tbl_of (by rw [hk]; exact e) (by rw [hk]; decide +kernel) fun q hq => by
    obtain ⟨x, hx, h1, h2⟩ := hv q hq
    obtain ⟨u, h3, h4⟩ := He.valsB_ok c hx
    exact ⟨u, _, by rw [← h1]; exact h3, h4, h2⟩
def moOf (X : K.In h) (G : h.Ns mainGlobals mg) (S : Says w K) : Mo K mg where
  len := He.free_ok X G (S.fr "len" (by decide +kernel))
  int := He.free_ok X G (S.fr "int" (by decide +kernel))
  list := He.free_ok X G (S.fr "list" (by decide +kernel))
  tuple := He.free_ok X G (S.fr "tuple" (by decide +kernel))
  set := He.free_ok X G (S.fr "set" (by decide +kernel))
  bool := He.free_ok X G (S.fr "bool" (by decide +kernel))
  str := He.free_ok X G (S.fr "str" (by decide +kernel))
  dict := He.free_ok X G (S.fr "dict" (by decide +kernel))
  all := He.free_ok X G (S.fr "all" (by decide +kernel))
  any := He.free_ok X G (S.fr "any" (by decide +kernel))
  sorted := He.free_ok X G (S.fr "sorted" (by decide +kernel))
  isinstance := He.free_ok X G (S.fr "isinstance" (by decide +kernel))
  range := He.free_ok X G (S.fr "range" (by decide +kernel))
  zip := He.free_ok X G (S.fr "zip" (by decide +kernel))
  enumerate := He.free_ok X G (S.fr "enumerate" (by decide +kernel))
  cR := He.ga K "Row"
  cO := He.ga K "Order"
  cB := He.ga K "Book"
  gR := He.glo_ok X G (S.gl "Row" (by decide +kernel))
  gO := He.glo_ok X G (S.gl "Order" (by decide +kernel))
  gB := He.glo_ok X G (S.gl "Book" (by decide +kernel))
  kR := (S.cl "Row" (by decide)).1
  kO := (S.cl "Order" (by decide)).1
  kB := (S.cl "Book" (by decide)).1
  ne1 := by
    have c := (He.ba (show okNe K = true from S.c 16)).1
    simpa using c
  ne2 := by
    have c := (He.ba (He.ba (show okNe K = true from S.c 16)).2).1
    simpa using c
  ne3 := by
    have c := (He.ba (He.ba (show okNe K = true from S.c 16)).2).2
    simpa using c
  aR := (S.cl "Row" (by decide)).2.2.1
  aO := (S.cl "Order" (by decide)).2.2.1
  aB := (S.cl "Book" (by decide)).2.2.1
  hn := He.eqO_ok (He.ba (show okGs K = true from S.c 17)).1
  htk := of_decide_eq_true (He.ba (show okGs K = true from S.c 17)).2
  mR := (S.cl "Row" (by decide)).2.2.2
  mO := (S.cl "Order" (by decide)).2.2.2
  mB := (S.cl "Book" (by decide)).2.2.2
  nR := fun f hf => by
    simp only [List.mem_cons, List.not_mem_nil, or_false] at hf
    rcases hf with rfl | rfl | rfl
    · exact S.no ("Row", "pro") (by decide)
    · exact S.no ("Row", "con") (by decide)
    · exact S.no ("Row", "named") (by decide)
  nO := fun f hf => by
    simp only [List.mem_cons, List.not_mem_nil, or_false] at hf
    rcases hf with rfl | rfl | rfl
    · exact S.no ("Order", "ranked") (by decide)
    · exact S.no ("Order", "spots") (by decide)
    · exact S.no ("Order", "reasons") (by decide)
  nB := fun f hf => by
    simp only [List.mem_cons, List.not_mem_nil, or_false] at hf
    rcases hf with rfl | rfl
    · exact S.no ("Book", "reasons") (by decide)
    · exact S.no ("Book", "by_mark") (by decide)
  kit := fun t u hu => by
    have k := S.kit t u (by cases t <;> decide) (by cases u <;> decide) hu
    cases t <;> cases u <;> exact k
  mcl := mT
  crB := okRead_ok (S.c 7)
  most := okMost_ok (S.c 8)
  crO := okRead_ok (S.c 6)
  letters := He.str_ok X G (He.ba (show okCon K = true from S.c 15)).1
  nameLen := He.int_ok X G (He.ba (He.ba (show okCon K = true from S.c 15)).2).1
  mostRanked := He.int_ok X G (He.ba (He.ba (He.ba (show okCon K = true from S.c 15)).2).2).1
  mostReasons := He.int_ok X G (He.ba (He.ba (He.ba (show okCon K = true from S.c 15)).2).2).2
def tbOf (X : K.In h) (G : h.Ns mainGlobals mg) (S : Says w K) : Tb K w mg where
  aF := He.ga K "FORMS"
  aL := He.ga K "LENGTHS"
  aX := He.ga K "FLAWS"
  kF := kFs K
  kX := kXs K
  gF := He.glo_ok X G (S.gl "FORMS" (by decide +kernel))
  gL := He.glo_ok X G (S.gl "LENGTHS" (by decide +kernel))
  gX := He.glo_ok X G (S.gl "FLAWS" (by decide +kernel))
  tF := vals_tbl (vs := vF) (by
    have e : tabs K = tabV w := congrArg (fun z : AlH => z.2.2) S
    exact (List.cons.inj e).1) (He.ba (show okTab K = true from S.c 14)).1 rfl fun q hq => by
      simp only [kFs, List.mem_cons, List.not_mem_nil, or_false] at hq
      rcases hq with rfl | rfl | rfl | rfl | rfl | rfl | rfl | rfl | rfl | rfl <;> exact ⟨(_, .glo _), by simp only [vF]; simp, rfl, fun M => .adr _⟩
  tL := vals_tbl (vs := vL) (by
    have e : tabs K = tabV w := congrArg (fun z : AlH => z.2.2) S
    exact (List.cons.inj (List.cons.inj e).2).1) (He.ba (He.ba (show okTab K = true from S.c 14)).2).1 rfl fun q hq => by
      simp only [lens10, List.mem_cons, List.not_mem_nil, or_false] at hq
      rcases hq with rfl | rfl | rfl | rfl | rfl | rfl | rfl | rfl | rfl | rfl <;> exact ⟨(_, .int _), by simp only [vL]; simp, rfl, fun M => .int _⟩
  tX := vals_tbl (vs := vX) (by
    have e : tabs K = tabV w := congrArg (fun z : AlH => z.2.2) S
    exact (List.cons.inj (List.cons.inj (List.cons.inj e).2).2).1) (He.ba (He.ba (show okTab K = true from S.c 14)).2).2 rfl fun q hq => by
      simp only [kXs, List.mem_cons, List.not_mem_nil, or_false] at hq
      rcases hq with rfl | rfl | rfl | rfl | rfl | rfl | rfl | rfl | rfl | rfl <;> exact ⟨(_, .glo _), by simp only [vX]; simp, rfl, fun M => .adr _⟩
  keys := rfl
  fF := fun q hq => by
    simp only [List.mem_cons, List.not_mem_nil, or_false] at hq
    rcases hq with rfl | rfl | rfl | rfl | rfl
    · exact ⟨_, He.glo_ok X G (S.gl "form_fits" (by decide +kernel)), rfl⟩
    · exact ⟨_, He.glo_ok X G (S.gl "form_stuck" (by decide +kernel)), rfl⟩
    · exact ⟨_, He.glo_ok X G (S.gl "form_follows" (by decide +kernel)), rfl⟩
    · exact ⟨_, He.glo_ok X G (S.gl "form_open" (by decide +kernel)), rfl⟩
    · exact ⟨_, He.glo_ok X G (S.gl "form_clerks" (by decide +kernel)), rfl⟩
  fX := fun q hq => by
    simp only [List.mem_cons, List.not_mem_nil, or_false] at hq
    rcases hq with rfl | rfl | rfl | rfl
    · exact ⟨_, He.glo_ok X G (S.gl "flaw_fits" (by decide +kernel)), rfl⟩
    · exact ⟨_, He.glo_ok X G (S.gl "flaw_stuck" (by decide +kernel)), rfl⟩
    · exact ⟨_, He.glo_ok X G (S.gl "flaw_follows" (by decide +kernel)), rfl⟩
    · exact ⟨_, He.glo_ok X G (S.gl "flaw_open" (by decide +kernel)), rfl⟩
theorem dn_is_spelled (X : K.In h) (G : h.Ns mainGlobals mg) (S : Says w K) : Dn K mg "is_spelled" s_is_spelled := ⟨_, _, (S.def_ 0 (d := ⟨fun K => He.ga K "is_spelled", "is_spelled", "is_spelled", s_is_spelled, 0⟩) rfl rfl).choose_spec, He.glo_ok X G (S.gl "is_spelled" (by decide +kernel))⟩
theorem dn_is_name (X : K.In h) (G : h.Ns mainGlobals mg) (S : Says w K) : Dn K mg "is_name" s_is_name := ⟨_, _, (S.def_ 1 (d := ⟨fun K => He.ga K "is_name", "is_name", "is_name", s_is_name, 0⟩) rfl rfl).choose_spec, He.glo_ok X G (S.gl "is_name" (by decide +kernel))⟩
theorem dn_is_names (X : K.In h) (G : h.Ns mainGlobals mg) (S : Says w K) : Dn K mg "is_names" s_is_names := ⟨_, _, (S.def_ 2 (d := ⟨fun K => He.ga K "is_names", "is_names", "is_names", s_is_names, 0⟩) rfl rfl).choose_spec, He.glo_ok X G (S.gl "is_names" (by decide +kernel))⟩
theorem dn_is_record (X : K.In h) (G : h.Ns mainGlobals mg) (S : Says w K) : Dn K mg "is_record" s_is_record := ⟨_, _, (S.def_ 4 (d := ⟨fun K => He.ga K "is_record", "is_record", "is_record", s_is_record, 0⟩) rfl rfl).choose_spec, He.glo_ok X G (S.gl "is_record" (by decide +kernel))⟩
theorem dn_stranger (X : K.In h) (G : h.Ns mainGlobals mg) (S : Says w K) : Dn K mg "stranger" s_stranger := ⟨_, _, (S.def_ 5 (d := ⟨fun K => He.ga K "stranger", "stranger", "stranger", s_stranger, 0⟩) rfl rfl).choose_spec, He.glo_ok X G (S.gl "stranger" (by decide +kernel))⟩
theorem dn_unborne (X : K.In h) (G : h.Ns mainGlobals mg) (S : Says w K) : Dn K mg "unborne" s_unborne := ⟨_, _, (S.def_ 3 (d := ⟨fun K => He.ga K "unborne", "unborne", "unborne", s_unborne, 0⟩) rfl rfl).choose_spec, He.glo_ok X G (S.gl "unborne" (by decide +kernel))⟩
theorem dn_lot_records (X : K.In h) (G : h.Ns mainGlobals mg) (S : Says w K) : Dn K mg "lot_records" s_lot_records := ⟨_, _, (S.def_ 6 (d := ⟨fun K => He.ga K "lot_records", "lot_records", "lot_records", s_lot_records, 0⟩) rfl rfl).choose_spec, He.glo_ok X G (S.gl "lot_records" (by decide +kernel))⟩
theorem dn_against_any (X : K.In h) (G : h.Ns mainGlobals mg) (S : Says w K) : Dn K mg "against_any" s_against_any := ⟨_, _, (S.def_ 7 (d := ⟨fun K => He.ga K "against_any", "against_any", "against_any", s_against_any, 0⟩) rfl rfl).choose_spec, He.glo_ok X G (S.gl "against_any" (by decide +kernel))⟩
theorem dn_first_idle (X : K.In h) (G : h.Ns mainGlobals mg) (S : Says w K) : Dn K mg "first_idle" s_first_idle := ⟨_, _, (S.def_ 8 (d := ⟨fun K => He.ga K "first_idle", "first_idle", "first_idle", s_first_idle, 0⟩) rfl rfl).choose_spec, He.glo_ok X G (S.gl "first_idle" (by decide +kernel))⟩
theorem dn_first_for (X : K.In h) (G : h.Ns mainGlobals mg) (S : Says w K) : Dn K mg "first_for" s_first_for := ⟨_, _, (S.def_ 9 (d := ⟨fun K => He.ga K "first_for", "first_for", "first_for", s_first_for, 0⟩) rfl rfl).choose_spec, He.glo_ok X G (S.gl "first_for" (by decide +kernel))⟩
theorem dn_first_unborne (X : K.In h) (G : h.Ns mainGlobals mg) (S : Says w K) : Dn K mg "first_unborne" s_first_unborne := ⟨_, _, (S.def_ 10 (d := ⟨fun K => He.ga K "first_unborne", "first_unborne", "first_unborne", s_first_unborne, 0⟩) rfl rfl).choose_spec, He.glo_ok X G (S.gl "first_unborne" (by decide +kernel))⟩
theorem dn_stuck_flaw (X : K.In h) (G : h.Ns mainGlobals mg) (S : Says w K) : Dn K mg "stuck_flaw" s_stuck_flaw := ⟨_, _, (S.def_ 11 (d := ⟨fun K => He.ga K "stuck_flaw", "stuck_flaw", "stuck_flaw", s_stuck_flaw, 0⟩) rfl rfl).choose_spec, He.glo_ok X G (S.gl "stuck_flaw" (by decide +kernel))⟩
theorem dn_grounds_flaw (X : K.In h) (G : h.Ns mainGlobals mg) (S : Says w K) : Dn K mg "grounds_flaw" s_grounds_flaw := ⟨_, _, (S.def_ 12 (d := ⟨fun K => He.ga K "grounds_flaw", "grounds_flaw", "grounds_flaw", s_grounds_flaw, 0⟩) rfl rfl).choose_spec, He.glo_ok X G (S.gl "grounds_flaw" (by decide +kernel))⟩
theorem dn_flaw_fits (X : K.In h) (G : h.Ns mainGlobals mg) (S : Says w K) : Dn K mg "flaw_fits" s_flaw_fits := ⟨_, _, (S.def_ 13 (d := ⟨fun K => He.ga K "flaw_fits", "flaw_fits", "flaw_fits", s_flaw_fits, 0⟩) rfl rfl).choose_spec, He.glo_ok X G (S.gl "flaw_fits" (by decide +kernel))⟩
theorem dn_flaw_stuck (X : K.In h) (G : h.Ns mainGlobals mg) (S : Says w K) : Dn K mg "flaw_stuck" s_flaw_stuck := ⟨_, _, (S.def_ 14 (d := ⟨fun K => He.ga K "flaw_stuck", "flaw_stuck", "flaw_stuck", s_flaw_stuck, 0⟩) rfl rfl).choose_spec, He.glo_ok X G (S.gl "flaw_stuck" (by decide +kernel))⟩
theorem dn_flaw_follows (X : K.In h) (G : h.Ns mainGlobals mg) (S : Says w K) : Dn K mg "flaw_follows" s_flaw_follows := ⟨_, _, (S.def_ 15 (d := ⟨fun K => He.ga K "flaw_follows", "flaw_follows", "flaw_follows", s_flaw_follows, 0⟩) rfl rfl).choose_spec, He.glo_ok X G (S.gl "flaw_follows" (by decide +kernel))⟩
theorem dn_flaw_open (X : K.In h) (G : h.Ns mainGlobals mg) (S : Says w K) : Dn K mg "flaw_open" s_flaw_open := ⟨_, _, (S.def_ 16 (d := ⟨fun K => He.ga K "flaw_open", "flaw_open", "flaw_open", s_flaw_open, 0⟩) rfl rfl).choose_spec, He.glo_ok X G (S.gl "flaw_open" (by decide +kernel))⟩
theorem dn_is_order_of (X : K.In h) (G : h.Ns mainGlobals mg) (S : Says w K) : Dn K mg "is_order_of" s_is_order_of := ⟨_, _, (S.def_ 18 (d := ⟨fun K => He.ga K "is_order_of", "is_order_of", "is_order_of", s_is_order_of, 0⟩) rfl rfl).choose_spec, He.glo_ok X G (S.gl "is_order_of" (by decide +kernel))⟩
theorem dn_is_row_of (X : K.In h) (G : h.Ns mainGlobals mg) (S : Says w K) : Dn K mg "is_row_of" s_is_row_of := ⟨_, _, (S.def_ 19 (d := ⟨fun K => He.ga K "is_row_of", "is_row_of", "is_row_of", s_is_row_of, 0⟩) rfl rfl).choose_spec, He.glo_ok X G (S.gl "is_row_of" (by decide +kernel))⟩
theorem dn_is_lot_of (X : K.In h) (G : h.Ns mainGlobals mg) (S : Says w K) : Dn K mg "is_lot_of" s_is_lot_of := ⟨_, _, (S.def_ 20 (d := ⟨fun K => He.ga K "is_lot_of", "is_lot_of", "is_lot_of", s_is_lot_of, 0⟩) rfl rfl).choose_spec, He.glo_ok X G (S.gl "is_lot_of" (by decide +kernel))⟩
theorem dn_are_orders (X : K.In h) (G : h.Ns mainGlobals mg) (S : Says w K) : Dn K mg "are_orders" s_are_orders := ⟨_, _, (S.def_ 21 (d := ⟨fun K => He.ga K "are_orders", "are_orders", "are_orders", s_are_orders, 0⟩) rfl rfl).choose_spec, He.glo_ok X G (S.gl "are_orders" (by decide +kernel))⟩
theorem dn_form_fits (X : K.In h) (G : h.Ns mainGlobals mg) (S : Says w K) : Dn K mg "form_fits" s_form_fits := ⟨_, _, (S.def_ 22 (d := ⟨fun K => He.ga K "form_fits", "form_fits", "form_fits", s_form_fits, 0⟩) rfl rfl).choose_spec, He.glo_ok X G (S.gl "form_fits" (by decide +kernel))⟩
theorem dn_form_stuck (X : K.In h) (G : h.Ns mainGlobals mg) (S : Says w K) : Dn K mg "form_stuck" s_form_stuck := ⟨_, _, (S.def_ 23 (d := ⟨fun K => He.ga K "form_stuck", "form_stuck", "form_stuck", s_form_stuck, 0⟩) rfl rfl).choose_spec, He.glo_ok X G (S.gl "form_stuck" (by decide +kernel))⟩
theorem dn_form_follows (X : K.In h) (G : h.Ns mainGlobals mg) (S : Says w K) : Dn K mg "form_follows" s_form_follows := ⟨_, _, (S.def_ 24 (d := ⟨fun K => He.ga K "form_follows", "form_follows", "form_follows", s_form_follows, 0⟩) rfl rfl).choose_spec, He.glo_ok X G (S.gl "form_follows" (by decide +kernel))⟩
theorem dn_form_open (X : K.In h) (G : h.Ns mainGlobals mg) (S : Says w K) : Dn K mg "form_open" s_form_open := ⟨_, _, (S.def_ 25 (d := ⟨fun K => He.ga K "form_open", "form_open", "form_open", s_form_open, 0⟩) rfl rfl).choose_spec, He.glo_ok X G (S.gl "form_open" (by decide +kernel))⟩
theorem dn_form_clerks (X : K.In h) (G : h.Ns mainGlobals mg) (S : Says w K) : Dn K mg "form_clerks" s_form_clerks := ⟨_, _, (S.def_ 26 (d := ⟨fun K => He.ga K "form_clerks", "form_clerks", "form_clerks", s_form_clerks, 0⟩) rfl rfl).choose_spec, He.glo_ok X G (S.gl "form_clerks" (by decide +kernel))⟩
theorem dn_is_paper (X : K.In h) (G : h.Ns mainGlobals mg) (S : Says w K) : Dn K mg "is_paper" s_is_paper := ⟨_, _, (S.def_ 27 (d := ⟨fun K => He.ga K "is_paper", "is_paper", "is_paper", s_is_paper, 0⟩) rfl rfl).choose_spec, He.glo_ok X G (S.gl "is_paper" (by decide +kernel))⟩
theorem dn_paper_flaw (X : K.In h) (G : h.Ns mainGlobals mg) (S : Says w K) : Dn K mg "paper_flaw" s_paper_flaw := ⟨_, _, (S.def_ 17 (d := ⟨fun K => He.ga K "paper_flaw", "paper_flaw", "paper_flaw", s_paper_flaw, 0⟩) rfl rfl).choose_spec, He.glo_ok X G (S.gl "paper_flaw" (by decide +kernel))⟩
theorem dn_flaw (X : K.In h) (G : h.Ns mainGlobals mg) (S : Says w K) : Dn K mg "flaw" s_flaw := ⟨_, _, (S.def_ 28 (d := ⟨fun K => He.ga K "flaw", "flaw", "flaw", s_flaw, 0⟩) rfl rfl).choose_spec, He.glo_ok X G (S.gl "flaw" (by decide +kernel))⟩
theorem dn__law_is_among (X : K.In h) (G : h.Ns mainGlobals mg) (S : Says w K) : Dn K mg "_law_is_among" s_l_is_among := ⟨_, _, (S.def_ 35 (d := ⟨fun K => He.ga K "_law_is_among", "_law_is_among", "_law_is_among", s_l_is_among, 0⟩) rfl rfl).choose_spec, He.glo_ok X G (S.gl "_law_is_among" (by decide +kernel))⟩
theorem dn__law_bears (X : K.In h) (G : h.Ns mainGlobals mg) (S : Says w K) : Dn K mg "_law_bears" s_l_bears := ⟨_, _, (S.def_ 38 (d := ⟨fun K => He.ga K "_law_bears", "_law_bears", "_law_bears", s_l_bears, 0⟩) rfl rfl).choose_spec, He.glo_ok X G (S.gl "_law_bears" (by decide +kernel))⟩
theorem dn__law_like (X : K.In h) (G : h.Ns mainGlobals mg) (S : Says w K) : Dn K mg "_law_like" s_l_like := ⟨_, _, (S.def_ 33 (d := ⟨fun K => He.ga K "_law_like", "_law_like", "_law_like", s_l_like, 0⟩) rfl rfl).choose_spec, He.glo_ok X G (S.gl "_law_like" (by decide +kernel))⟩
theorem dn__law_is_lot (X : K.In h) (G : h.Ns mainGlobals mg) (S : Says w K) : Dn K mg "_law_is_lot" s_l_is_lot := ⟨_, _, (S.def_ 36 (d := ⟨fun K => He.ga K "_law_is_lot", "_law_is_lot", "_law_is_lot", s_l_is_lot, 0⟩) rfl rfl).choose_spec, He.glo_ok X G (S.gl "_law_is_lot" (by decide +kernel))⟩
theorem dn__law_order (X : K.In h) (G : h.Ns mainGlobals mg) (S : Says w K) : Dn K mg "_law_order" s_l_order := ⟨_, _, (S.def_ 45 (d := ⟨fun K => He.ga K "_law_order", "_law_order", "_law_order", s_l_order, 0⟩) rfl rfl).choose_spec, He.glo_ok X G (S.gl "_law_order" (by decide +kernel))⟩
theorem dn__law_real_row (X : K.In h) (G : h.Ns mainGlobals mg) (S : Says w K) : Dn K mg "_law_real_row" s_l_real_row := ⟨_, _, (S.def_ 43 (d := ⟨fun K => He.ga K "_law_real_row", "_law_real_row", "_law_real_row", s_l_real_row, 0⟩) rfl rfl).choose_spec, He.glo_ok X G (S.gl "_law_real_row" (by decide +kernel))⟩
theorem dn__law_real (X : K.In h) (G : h.Ns mainGlobals mg) (S : Says w K) : Dn K mg "_law_real" s_l_real := ⟨_, _, (S.def_ 54 (d := ⟨fun K => He.ga K "_law_real", "_law_real", "_law_real", s_l_real, 0⟩) rfl rfl).choose_spec, He.glo_ok X G (S.gl "_law_real" (by decide +kernel))⟩
theorem dn__law_is_order_part (X : K.In h) (G : h.Ns mainGlobals mg) (S : Says w K) : Dn K mg "_law_is_order_part" s_l_is_order_part := ⟨_, _, (S.def_ 55 (d := ⟨fun K => He.ga K "_law_is_order_part", "_law_is_order_part", "_law_is_order_part", s_l_is_order_part, 0⟩) rfl rfl).choose_spec, He.glo_ok X G (S.gl "_law_is_order_part" (by decide +kernel))⟩
theorem dn__law_is_row_part (X : K.In h) (G : h.Ns mainGlobals mg) (S : Says w K) : Dn K mg "_law_is_row_part" s_l_is_row_part := ⟨_, _, (S.def_ 56 (d := ⟨fun K => He.ga K "_law_is_row_part", "_law_is_row_part", "_law_is_row_part", s_l_is_row_part, 0⟩) rfl rfl).choose_spec, He.glo_ok X G (S.gl "_law_is_row_part" (by decide +kernel))⟩
theorem dn__law_unborne (X : K.In h) (G : h.Ns mainGlobals mg) (S : Says w K) : Dn K mg "_law_unborne" s_l_unborne := ⟨_, _, (S.def_ 60 (d := ⟨fun K => He.ga K "_law_unborne", "_law_unborne", "_law_unborne", s_l_unborne, 0⟩) rfl rfl).choose_spec, He.glo_ok X G (S.gl "_law_unborne" (by decide +kernel))⟩
theorem dn__law_first_idle (X : K.In h) (G : h.Ns mainGlobals mg) (S : Says w K) : Dn K mg "_law_first_idle" s_l_first_idle := ⟨_, _, (S.def_ 48 (d := ⟨fun K => He.ga K "_law_first_idle", "_law_first_idle", "_law_first_idle", s_l_first_idle, 0⟩) rfl rfl).choose_spec, He.glo_ok X G (S.gl "_law_first_idle" (by decide +kernel))⟩
theorem dn__law_signs (X : K.In h) (G : h.Ns mainGlobals mg) (S : Says w K) : Dn K mg "_law_signs" s_l_signs := ⟨_, _, (S.def_ 49 (d := ⟨fun K => He.ga K "_law_signs", "_law_signs", "_law_signs", s_l_signs, 0⟩) rfl rfl).choose_spec, He.glo_ok X G (S.gl "_law_signs" (by decide +kernel))⟩
theorem dn__law_stuck_flaw (X : K.In h) (G : h.Ns mainGlobals mg) (S : Says w K) : Dn K mg "_law_stuck_flaw" s_l_stuck_flaw := ⟨_, _, (S.def_ 50 (d := ⟨fun K => He.ga K "_law_stuck_flaw", "_law_stuck_flaw", "_law_stuck_flaw", s_l_stuck_flaw, 0⟩) rfl rfl).choose_spec, He.glo_ok X G (S.gl "_law_stuck_flaw" (by decide +kernel))⟩
theorem dn__law_pairs (X : K.In h) (G : h.Ns mainGlobals mg) (S : Says w K) : Dn K mg "_law_pairs" s_l_pairs := ⟨_, _, (S.def_ 52 (d := ⟨fun K => He.ga K "_law_pairs", "_law_pairs", "_law_pairs", s_l_pairs, 0⟩) rfl rfl).choose_spec, He.glo_ok X G (S.gl "_law_pairs" (by decide +kernel))⟩
theorem dn__law_joined (X : K.In h) (G : h.Ns mainGlobals mg) (S : Says w K) : Dn K mg "_law_joined" s_l_joined := ⟨_, _, (S.def_ 64 (d := ⟨fun K => He.ga K "_law_joined", "_law_joined", "_law_joined", s_l_joined, 0⟩) rfl rfl).choose_spec, He.glo_ok X G (S.gl "_law_joined" (by decide +kernel))⟩
theorem dn__law_follow_flaw (X : K.In h) (G : h.Ns mainGlobals mg) (S : Says w K) : Dn K mg "_law_follow_flaw" s_l_follow := ⟨_, _, (S.def_ 51 (d := ⟨fun K => He.ga K "_law_follow_flaw", "_law_follow_flaw", "_law_follow_flaw", s_l_follow, 0⟩) rfl rfl).choose_spec, He.glo_ok X G (S.gl "_law_follow_flaw" (by decide +kernel))⟩
theorem dn__law_due (X : K.In h) (G : h.Ns mainGlobals mg) (S : Says w K) : Dn K mg "_law_due" s_l_due := ⟨_, _, (S.def_ 66 (d := ⟨fun K => He.ga K "_law_due", "_law_due", "_law_due", s_l_due, 0⟩) rfl rfl).choose_spec, He.glo_ok X G (S.gl "_law_due" (by decide +kernel))⟩
theorem dn__law_stuck_lot (X : K.In h) (G : h.Ns mainGlobals mg) (S : Says w K) : Dn K mg "_law_stuck_lot" s_l_stuck_lot := ⟨_, _, (S.def_ 46 (d := ⟨fun K => He.ga K "_law_stuck_lot", "_law_stuck_lot", "_law_stuck_lot", s_l_stuck_lot, 0⟩) rfl rfl).choose_spec, He.glo_ok X G (S.gl "_law_stuck_lot" (by decide +kernel))⟩
theorem dn__law_core (X : K.In h) (G : h.Ns mainGlobals mg) (S : Says w K) : Dn K mg "_law_core" s_l_core := ⟨_, _, (S.def_ 47 (d := ⟨fun K => He.ga K "_law_core", "_law_core", "_law_core", s_l_core, 0⟩) rfl rfl).choose_spec, He.glo_ok X G (S.gl "_law_core" (by decide +kernel))⟩
theorem dn__law_perms (X : K.In h) (G : h.Ns mainGlobals mg) (S : Says w K) : Dn K mg "_law_perms" s_l_perms := ⟨_, _, (S.def_ 39 (d := ⟨fun K => He.ga K "_law_perms", "_law_perms", "_law_perms", s_l_perms, 0⟩) rfl rfl).choose_spec, He.glo_ok X G (S.gl "_law_perms" (by decide +kernel))⟩
theorem dn__law_fitting (X : K.In h) (G : h.Ns mainGlobals mg) (S : Says w K) : Dn K mg "_law_fitting" s_l_fitting := ⟨_, _, (S.def_ 53 (d := ⟨fun K => He.ga K "_law_fitting", "_law_fitting", "_law_fitting", s_l_fitting, 0⟩) rfl rfl).choose_spec, He.glo_ok X G (S.gl "_law_fitting" (by decide +kernel))⟩
theorem dn__law_book (X : K.In h) (G : h.Ns mainGlobals mg) (S : Says w K) : Dn K mg "_law_book" s_l_book := ⟨_, _, (S.def_ 44 (d := ⟨fun K => He.ga K "_law_book", "_law_book", "_law_book", s_l_book, 0⟩) rfl rfl).choose_spec, He.glo_ok X G (S.gl "_law_book" (by decide +kernel))⟩
theorem dn__law_pull (X : K.In h) (G : h.Ns mainGlobals mg) (S : Says w K) : Dn K mg "_law_pull" s_l_pull := ⟨_, _, (S.def_ 30 (d := ⟨fun K => He.ga K "_law_pull", "_law_pull", "_law_pull", s_l_pull, 0⟩) rfl rfl).choose_spec, He.glo_ok X G (S.gl "_law_pull" (by decide +kernel))⟩
theorem dn__law_draws (X : K.In h) (G : h.Ns mainGlobals mg) (S : Says w K) : Dn K mg "_law_draws" s_l_draws := ⟨_, _, (S.def_ 29 (d := ⟨fun K => He.ga K "_law_draws", "_law_draws", "_law_draws", s_l_draws, 0⟩) rfl rfl).choose_spec, He.glo_ok X G (S.gl "_law_draws" (by decide +kernel))⟩
theorem dn__law_any (X : K.In h) (G : h.Ns mainGlobals mg) (S : Says w K) : Dn K mg "_law_any" s_l_any := ⟨_, _, (S.def_ 31 (d := ⟨fun K => He.ga K "_law_any", "_law_any", "_law_any", s_l_any, 0⟩) rfl rfl).choose_spec, He.glo_ok X G (S.gl "_law_any" (by decide +kernel))⟩
theorem dn__law_mixed (X : K.In h) (G : h.Ns mainGlobals mg) (S : Says w K) : Dn K mg "_law_mixed" s_l_mixed := ⟨_, _, (S.def_ 32 (d := ⟨fun K => He.ga K "_law_mixed", "_law_mixed", "_law_mixed", s_l_mixed, 0⟩) rfl rfl).choose_spec, He.glo_ok X G (S.gl "_law_mixed" (by decide +kernel))⟩
theorem dn__law_names (X : K.In h) (G : h.Ns mainGlobals mg) (S : Says w K) : Dn K mg "_law_names" s_l_names := ⟨_, _, (S.def_ 34 (d := ⟨fun K => He.ga K "_law_names", "_law_names", "_law_names", s_l_names, 0⟩) rfl rfl).choose_spec, He.glo_ok X G (S.gl "_law_names" (by decide +kernel))⟩
theorem dn__law_row (X : K.In h) (G : h.Ns mainGlobals mg) (S : Says w K) : Dn K mg "_law_row" s_l_row := ⟨_, _, (S.def_ 40 (d := ⟨fun K => He.ga K "_law_row", "_law_row", "_law_row", s_l_row, 0⟩) rfl rfl).choose_spec, He.glo_ok X G (S.gl "_law_row" (by decide +kernel))⟩
theorem dn__law_rows (X : K.In h) (G : h.Ns mainGlobals mg) (S : Says w K) : Dn K mg "_law_rows" s_l_rows := ⟨_, _, (S.def_ 41 (d := ⟨fun K => He.ga K "_law_rows", "_law_rows", "_law_rows", s_l_rows, 0⟩) rfl rfl).choose_spec, He.glo_ok X G (S.gl "_law_rows" (by decide +kernel))⟩
theorem dn__law_records (X : K.In h) (G : h.Ns mainGlobals mg) (S : Says w K) : Dn K mg "_law_records" s_l_records := ⟨_, _, (S.def_ 42 (d := ⟨fun K => He.ga K "_law_records", "_law_records", "_law_records", s_l_records, 0⟩) rfl rfl).choose_spec, He.glo_ok X G (S.gl "_law_records" (by decide +kernel))⟩
theorem dn__law_with_idle (X : K.In h) (G : h.Ns mainGlobals mg) (S : Says w K) : Dn K mg "_law_with_idle" s_l_with_idle := ⟨_, _, (S.def_ 62 (d := ⟨fun K => He.ga K "_law_with_idle", "_law_with_idle", "_law_with_idle", s_l_with_idle, 0⟩) rfl rfl).choose_spec, He.glo_ok X G (S.gl "_law_with_idle" (by decide +kernel))⟩
theorem dn__law_odd (X : K.In h) (G : h.Ns mainGlobals mg) (S : Says w K) : Dn K mg "_law_odd" s_l_odd := ⟨_, _, (S.def_ 37 (d := ⟨fun K => He.ga K "_law_odd", "_law_odd", "_law_odd", s_l_odd, 0⟩) rfl rfl).choose_spec, He.glo_ok X G (S.gl "_law_odd" (by decide +kernel))⟩
theorem dn__law_odd_part (X : K.In h) (G : h.Ns mainGlobals mg) (S : Says w K) : Dn K mg "_law_odd_part" s_l_odd_part := ⟨_, _, (S.def_ 57 (d := ⟨fun K => He.ga K "_law_odd_part", "_law_odd_part", "_law_odd_part", s_l_odd_part, 0⟩) rfl rfl).choose_spec, He.glo_ok X G (S.gl "_law_odd_part" (by decide +kernel))⟩
theorem dn__law_order_part (X : K.In h) (G : h.Ns mainGlobals mg) (S : Says w K) : Dn K mg "_law_order_part" s_l_order_part := ⟨_, _, (S.def_ 58 (d := ⟨fun K => He.ga K "_law_order_part", "_law_order_part", "_law_order_part", s_l_order_part, 0⟩) rfl rfl).choose_spec, He.glo_ok X G (S.gl "_law_order_part" (by decide +kernel))⟩
theorem dn__law_lot_part (X : K.In h) (G : h.Ns mainGlobals mg) (S : Says w K) : Dn K mg "_law_lot_part" s_l_lot_part := ⟨_, _, (S.def_ 59 (d := ⟨fun K => He.ga K "_law_lot_part", "_law_lot_part", "_law_lot_part", s_l_lot_part, 0⟩) rfl rfl).choose_spec, He.glo_ok X G (S.gl "_law_lot_part" (by decide +kernel))⟩
theorem dn__law_row_part (X : K.In h) (G : h.Ns mainGlobals mg) (S : Says w K) : Dn K mg "_law_row_part" s_l_row_part := ⟨_, _, (S.def_ 63 (d := ⟨fun K => He.ga K "_law_row_part", "_law_row_part", "_law_row_part", s_l_row_part, 0⟩) rfl rfl).choose_spec, He.glo_ok X G (S.gl "_law_row_part" (by decide +kernel))⟩
theorem dn__law_some_paper (X : K.In h) (G : h.Ns mainGlobals mg) (S : Says w K) : Dn K mg "_law_some_paper" s_l_some_paper := ⟨_, _, (S.def_ 65 (d := ⟨fun K => He.ga K "_law_some_paper", "_law_some_paper", "_law_some_paper", s_l_some_paper, 0⟩) rfl rfl).choose_spec, He.glo_ok X G (S.gl "_law_some_paper" (by decide +kernel))⟩
theorem dn__law_bent_paper (X : K.In h) (G : h.Ns mainGlobals mg) (S : Says w K) : Dn K mg "_law_bent_paper" s_l_bent_paper := ⟨_, _, (S.def_ 61 (d := ⟨fun K => He.ga K "_law_bent_paper", "_law_bent_paper", "_law_bent_paper", s_l_bent_paper, 0⟩) rfl rfl).choose_spec, He.glo_ok X G (S.gl "_law_bent_paper" (by decide +kernel))⟩
theorem dm_Order_decides (S : Says w K) : Dm K (He.ga K "Order") "decides" "Order.decides" s_Order_decides := ⟨_, _, (S.def_ 68 (d := ⟨fun K => He.ma K (He.ga K "Order") "decides", "decides", "Order.decides", s_Order_decides, 0⟩) rfl rfl).choose_spec, He.meth_ok (S.me ("Order", "decides") (by decide +kernel))⟩
theorem dm_Order_bears (S : Says w K) : Dm K (He.ga K "Order") "bears" "Order.bears" s_Order_bears := ⟨_, _, (S.def_ 69 (d := ⟨fun K => He.ma K (He.ga K "Order") "bears", "bears", "Order.bears", s_Order_bears, 0⟩) rfl rfl).choose_spec, He.meth_ok (S.me ("Order", "bears") (by decide +kernel))⟩
theorem dm_Book_records (S : Says w K) : Dm K (He.ga K "Book") "records" "Book.records" s_Book_records := ⟨_, _, (S.def_ 70 (d := ⟨fun K => He.ma K (He.ga K "Book") "records", "records", "Book.records", s_Book_records, 0⟩) rfl rfl).choose_spec, He.meth_ok (S.me ("Book", "records") (by decide +kernel))⟩
theorem dm_Book_marks (S : Says w K) : Dm K (He.ga K "Book") "marks" "Book.marks" s_Book_marks := ⟨_, _, (S.def_ 71 (d := ⟨fun K => He.ma K (He.ga K "Book") "marks", "marks", "Book.marks", s_Book_marks, 0⟩) rfl rfl).choose_spec, He.meth_ok (S.me ("Book", "marks") (by decide +kernel))⟩
theorem dm_Book_row (S : Says w K) : Dm K (He.ga K "Book") "row" "Book.row" s_Book_row := ⟨_, _, (S.def_ 72 (d := ⟨fun K => He.ma K (He.ga K "Book") "row", "row", "Book.row", s_Book_row, 0⟩) rfl rfl).choose_spec, He.meth_ok (S.me ("Book", "row") (by decide +kernel))⟩
theorem dm_Book_is_lot (S : Says w K) : Dm K (He.ga K "Book") "is_lot" "Book.is_lot" s_Book_is_lot := ⟨_, _, (S.def_ 73 (d := ⟨fun K => He.ma K (He.ga K "Book") "is_lot", "is_lot", "Book.is_lot", s_Book_is_lot, 0⟩) rfl rfl).choose_spec, He.meth_ok (S.me ("Book", "is_lot") (by decide +kernel))⟩
theorem dz_Row (S : Says w K) : Dz K (He.ga K "Row") "Row.__init__" s_Row_init := ⟨_, _, (Fx.fun2 (d := ⟨fun K => He.ma K (He.ga K "Row") "__init__", "__init__", "Row.__init__", s_Row_init, 2⟩) (S.at_ 74 rfl).1 (S.at_ 74 rfl).2 rfl).choose_spec, (S.cl "Row" (by decide)).2.1⟩
theorem di_Order (S : Says w K) : Di K (He.ga K "Order") "Order.__init__" s_Order_init := ⟨_, _, (S.def_ 75 (d := ⟨fun K => He.ma K (He.ga K "Order") "__init__", "__init__", "Order.__init__", s_Order_init, 0⟩) rfl rfl).choose_spec, (S.cl "Order" (by decide)).2.1⟩
theorem di_Book (S : Says w K) : Di K (He.ga K "Book") "Book.__init__" s_Book_init := ⟨_, _, (S.def_ 76 (d := ⟨fun K => He.ma K (He.ga K "Book") "__init__", "__init__", "Book.__init__", s_Book_init, 0⟩) rfl rfl).choose_spec, (S.cl "Book" (by decide)).2.1⟩
theorem dc_Book (S : Says w K) : Dc K (He.ga K "Book") "Book.__contains__" s_Book_contains := ⟨_, _, (S.def_ 77 (d := ⟨fun K => He.ma K (He.ga K "Book") "__contains__", "__contains__", "Book.__contains__", s_Book_contains, 0⟩) rfl rfl).choose_spec, ⟨(okOwn_ok (S.c 11)).1, (okOwn_ok (S.c 11)).2⟩⟩
theorem da_Book (S : Says w K) : Da K (He.ga K "Book") "Book.__add__" s_Book_add := ⟨_, _, none, (S.def_ 78 (d := ⟨fun K => He.ma K (He.ga K "Book") "__add__", "__add__", "Book.__add__", s_Book_add, 0⟩) rfl rfl).choose_spec, okAdd_ok (S.c 13) (S.c 12)⟩
theorem dp_Row (S : Says w K) : Dp' K (He.ga K "Row") "idle" "Row.idle" s_Row_idle := ⟨_, _, _, (S.def_ 79 (d := ⟨prA, "idle", "Row.idle", s_Row_idle, 0⟩) rfl rfl).choose_spec, okProp_ok (S.c 10)⟩
theorem ds_Order (S : Says w K) : Ds K (He.ga K "Order") mT "read" "Order.read" s_Order_read := by
  obtain ⟨fd, F⟩ := S.def_ 80 (d := ⟨stA, "read", "Order.read", s_Order_read, 0⟩) rfl rfl
  exact ⟨_, _, fd, F, okStat_ok (S.c 9) (okRead_ok (S.c 6)) F.kp⟩
end
end FD
end
section
set_option maxHeartbeats 2000000
/-! every def keeps its promise, from the head's facts -/
namespace FD
open PySem PySem.Spec PyProof.Rows L2
section
variable {P : Program} {w : World} {K : PySem.W.Frag} {mg : Str → Option Value} {h : Heap} {base : Heap}
theorem calls_of (X : K.In h) (G : h.Ns mainGlobals mg) (S : Says w K) (T : Mo K mg) (tb : Tb K w mg) (eR : He.ga K "Row" = T.cR) (eO : He.ga K "Order" = T.cO) (eB : He.ga K "Book" = T.cB) (eM : mT = T.mcl) : Calls P w K mg base T := by
  have f_is_spelled : Fd P w K mg base "is_spelled" 1 (P_is_spelled T) := F_is_spelled (T := T) (dn_is_spelled X G S)
  have f_is_name : Fd P w K mg base "is_name" 2 (P_is_name T) := F_is_name (T := T) (dn_is_name X G S) f_is_spelled
  have f_is_names : Fd P w K mg base "is_names" 3 (P_is_names T) := F_is_names (T := T) (dn_is_names X G S) f_is_name
  have f_Row : Mc P w K mg base T.cR 4 (P_Row T) := F_Row (T := T) (eR ▸ dz_Row S) f_is_names
  have f_idle : Pt P w K mg base T.cR "idle" 1 (P_idle T) := F_idle (T := T) (eR ▸ dp_Row S)
  have f_Order : Mc P w K mg base T.cO 3 (P_Order T) := F_Order (T := T) (eO ▸ di_Order S) f_is_name
  have f_decides : Md P w K mg base T.cO "decides" 1 (P_decides T) := F_decides (T := T) (eO ▸ dm_Order_decides S)
  have f_bears : Md P w K mg base T.cO "bears" 2 (P_bears T) := F_bears (T := T) (eO ▸ dm_Order_bears S) f_decides
  have f_read : St P w K mg base T.cO T.mcl "read" 5 (P_read T) := F_read (T := T) (eO ▸ eM ▸ ds_Order S) f_is_names f_Order
  have f_is_record : Fd P w K mg base "is_record" 3 (P_is_record T) := F_is_record (T := T) (dn_is_record X G S) f_is_name
  have f_stranger : Fd P w K mg base "stranger" 1 (P_stranger T) := F_stranger (T := T) (dn_stranger X G S)
  have f_Book : Mc P w K mg base T.cB 4 (P_Book T) := F_Book (T := T) (eB ▸ di_Book S) f_is_names f_is_record f_stranger
  have f_records : Md P w K mg base T.cB "records" 1 (P_records T) := F_records (T := T) (eB ▸ dm_Book_records S)
  have f_marks : Md P w K mg base T.cB "marks" 1 (P_marks T) := F_marks (T := T) (eB ▸ dm_Book_marks S)
  have f_contains : Hs P w K mg base T.cB 3 (P_contains T) := F_contains (T := T) (eB ▸ dc_Book S) f_is_name
  have f_brow : Md P w K mg base T.cB "row" 4 (P_brow T) := F_brow (T := T) (eB ▸ dm_Book_row S) f_contains
  have f_is_lot : Md P w K mg base T.cB "is_lot" 4 (P_is_lot T) := F_is_lot (T := T) (eB ▸ dm_Book_is_lot S) f_is_names f_marks
  have f_badd : As P w K mg base T.cB 6 (P_badd T) := F_badd (T := T) (eB ▸ da_Book S) f_records f_Book
  have f_unborne : Fd P w K mg base "unborne" 3 (P_unborne T) := F_unborne (T := T) (dn_unborne X G S) f_records f_bears
  have f_lot_records : Fd P w K mg base "lot_records" 5 (P_lot_records T) := F_lot_records (T := T) (dn_lot_records X G S) f_brow
  have f_against : Fd P w K mg base "against_any" 1 (P_against T) := F_against (T := T) (dn_against_any X G S)
  have f_first_idle : Fd P w K mg base "first_idle" 3 (P_first_idle T) := F_first_idle (T := T) (dn_first_idle X G S) f_idle
  have f_first_for : Fd P w K mg base "first_for" 1 (P_first_for T) := F_first_for (T := T) (dn_first_for X G S)
  have f_first_unborne : Fd P w K mg base "first_unborne" 4 (P_first_unborne T) := F_first_unborne (T := T) (dn_first_unborne X G S) f_unborne
  have f_stuck_flaw : Fd P w K mg base "stuck_flaw" 4 (P_stuck_flaw T) := F_stuck_flaw (T := T) (dn_stuck_flaw X G S) f_first_idle f_against f_first_for
  have f_grounds : Fd P w K mg base "grounds_flaw" 6 (P_grounds T) := F_grounds (T := T) (dn_grounds_flaw X G S) f_lot_records f_first_idle f_against f_first_for
  have f_flaw_fits : Fd P w K mg base "flaw_fits" 5 (P_flaw_fits T) := F_flaw_fits (T := T) (dn_flaw_fits X G S) f_first_unborne
  have f_flaw_stuck : Fd P w K mg base "flaw_stuck" 6 (P_flaw_stuck T) := F_flaw_stuck (T := T) (dn_flaw_stuck X G S) f_lot_records f_stuck_flaw
  have f_flaw_follows : Fd P w K mg base "flaw_follows" 7 (P_flaw_follows T) := F_flaw_follows (T := T) (dn_flaw_follows X G S) f_grounds
  have f_flaw_open : Fd P w K mg base "flaw_open" 5 (P_flaw_open T) := F_flaw_open (T := T) (dn_flaw_open X G S) f_first_unborne f_bears
  have f_is_order_of : Fd P w K mg base "is_order_of" 1 (P_is_order_of T) := F_is_order_of (T := T) (dn_is_order_of X G S)
  have f_is_row_of : Fd P w K mg base "is_row_of" 1 (P_is_row_of T) := F_is_row_of (T := T) (dn_is_row_of X G S)
  have f_is_lot_of : Fd P w K mg base "is_lot_of" 5 (P_is_lot_of T) := F_is_lot_of (T := T) (dn_is_lot_of X G S) f_is_lot
  have f_are_orders : Fd P w K mg base "are_orders" 2 (P_are_orders T) := F_are_orders (T := T) (dn_are_orders X G S) f_is_order_of
  have f_form_fits : Fd P w K mg base "form_fits" 2 (P2 T "fits" fun b p => ordQ b.1.1 p) := F_form_fits (T := T) (dn_form_fits X G S) f_is_order_of
  have f_form_stuck : Fd P w K mg base "form_stuck" 6 (P2 T "stuck" fun b p => lotQ b.1.2 p) := F_form_stuck (T := T) (dn_form_stuck X G S) f_is_lot_of
  have f_form_follows : Fd P w K mg base "form_follows" 6 (P3 T "follows" fun b p q => rowQ b.1.1 p && lotQ b.1.2 q) := F_form_follows (T := T) (dn_form_follows X G S) f_is_row_of f_is_lot_of
  have f_form_open : Fd P w K mg base "form_open" 2 (P3 T "open" fun b p q => rowQ b.1.1 p && ordQ b.1.1 q) := F_form_open (T := T) (dn_form_open X G S) f_is_row_of f_is_order_of
  have f_form_clerks : Fd P w K mg base "form_clerks" 3 (P3 T "clerks" fun b p q => false) := F_form_clerks (T := T) (dn_form_clerks X G S) f_are_orders
  have f_is_paper : Fd P w K mg base "is_paper" 7 (P_is_paper T) := F_is_paper (T := T) (tb := tb) (dn_is_paper X G S) f_form_fits f_form_stuck f_form_follows f_form_open f_form_clerks
  have f_paper_flaw : Fd P w K mg base "paper_flaw" 8 (P_paper_flaw T) := F_paper_flaw (T := T) (tb := tb) (dn_paper_flaw X G S) f_flaw_fits f_flaw_stuck f_flaw_follows f_flaw_open
  have f_l_is_among : Fd P w K mg base "_law_is_among" 1 (P_l_is_among T) := F_l_is_among (T := T) (dn__law_is_among X G S)
  have f_l_bears : Fd P w K mg base "_law_bears" 1 P_l_bears := F_l_bears (dn__law_bears X G S)
  have f_like1 : Fd P w K mg base "_law_like" 2 (P_l_like 1) := F_l_like T (dn__law_like X G S) 1
  have f_like2 : Fd P w K mg base "_law_like" 3 (P_l_like 2) := F_l_like T (dn__law_like X G S) 2
  have f_l_is_lot : Fd P w K mg base "_law_is_lot" 2 (P_l_is_lot T) := F_l_is_lot (T := T) (dn__law_is_lot X G S) f_l_is_among
  have f_l_order : Fd P w K mg base "_law_order" 6 (P_l_order T) := F_l_order (T := T) (dn__law_order X G S) f_read
  have f_l_real_row : Fd P w K mg base "_law_real_row" 6 (P_l_real_row T) := F_l_real_row (T := T) (dn__law_real_row X G S) f_Row
  have f_real : Fd P w K mg base "_law_real" 10 (P_l_real T 3) := F_l_real T (dn__law_real X G S) f_l_order f_l_real_row 3
  have f_l_iop : Fd P w K mg base "_law_is_order_part" 1 (P_l_iop T) := F_l_iop (T := T) (dn__law_is_order_part X G S)
  have f_l_irp : Fd P w K mg base "_law_is_row_part" 1 (P_l_irp T) := F_l_irp (T := T) (dn__law_is_row_part X G S)
  have f_l_unborne : Fd P w K mg base "_law_unborne" 2 P_l_unborne := F_l_unborne (dn__law_unborne X G S) f_l_bears
  have f_l_first_idle : Fd P w K mg base "_law_first_idle" 1 P_l_first_idle := F_l_first_idle (dn__law_first_idle X G S)
  have f_l_signs : Fd P w K mg base "_law_signs" 1 P_l_signs := F_l_signs (T := T) (dn__law_signs X G S)
  have f_l_stuck : Fd P w K mg base "_law_stuck_flaw" 2 P_l_stuck := F_l_stuck (dn__law_stuck_flaw X G S) f_l_signs f_l_first_idle
  have f_l_pairs : Fd P w K mg base "_law_pairs" 1 P_l_pairs := F_l_pairs (dn__law_pairs X G S)
  have f_l_joined : Fd P w K mg base "_law_joined" 2 P_l_joined := F_l_joined (T := T) (dn__law_joined X G S) f_l_signs
  have f_l_follow : Fd P w K mg base "_law_follow_flaw" 2 P_l_follow := F_l_follow (dn__law_follow_flaw X G S) f_l_signs f_l_first_idle
  have f_l_due : Fd P w K mg base "_law_due" 3 (P_l_due T) := F_l_due (T := T) (dn__law_due X G S) f_l_iop f_l_irp f_l_is_lot f_l_unborne f_l_stuck f_l_pairs f_l_follow f_l_bears
  have f_l_stuck_lot : Fd P w K mg base "_law_stuck_lot" 1 P_l_stuck_lot := F_l_stuck_lot (T := T) (dn__law_stuck_lot X G S)
  have f_l_core : Fd P w K mg base "_law_core" 2 P_l_core := F_l_core (T := T) (dn__law_core X G S) f_l_stuck_lot
  have f_l_perms : Fd P w K mg base "_law_perms" 1 P_l_perms := F_l_perms (T := T) (dn__law_perms X G S)
  have f_l_fitting : Fd P w K mg base "_law_fitting" 2 P_l_fitting := F_l_fitting (T := T) (dn__law_fitting X G S) f_l_perms f_l_bears
  have f_l_book : Fd P w K mg base "_law_book" 7 (P_l_book T) := F_l_book (T := T) (dn__law_book X G S) f_l_real_row f_badd f_Book
  have f_l_pull : Fd P w K mg base "_law_pull" 1 P_l_pull := F_l_pull (T := T) (dn__law_pull X G S)
  have f_l_draws : Fd P w K mg base "_law_draws" 1 (SpDraws K) := F_l_draws (T := T) (dn__law_draws X G S)
  have f_l_any : Fd P w K mg base "_law_any" 2 SpAny := F_l_any (T := T) (dn__law_any X G S) f_l_pull
  have f_l_anyS : Fd P w K mg base "_law_any" 2 P_l_anyS := F_l_anyS (T := T) (dn__law_any X G S) f_l_pull
  have f_l_mixed : Fd P w K mg base "_law_mixed" 2 P_l_mixed := F_l_mixed (T := T) (dn__law_mixed X G S) f_l_pull
  have f_l_names : Fd P w K mg base "_law_names" 3 P_l_names := F_l_names (T := T) (dn__law_names X G S) f_l_pull f_l_any f_l_anyS
  have f_l_row : Fd P w K mg base "_law_row" 2 P_l_row := F_l_row (T := T) (dn__law_row X G S) f_l_pull f_l_bears
  have f_l_rows : Fd P w K mg base "_law_rows" 3 P_l_rows := F_l_rows (T := T) (dn__law_rows X G S) f_l_pull f_l_any f_l_mixed f_l_row
  have f_l_records : Fd P w K mg base "_law_records" 4 P_l_records := F_l_records (T := T) (dn__law_records X G S) f_l_names f_l_rows
  have f_l_with_idle : Fd P w K mg base "_law_with_idle" 2 P_l_with_idle := F_l_with_idle (T := T) (dn__law_with_idle X G S) f_l_pull
  have f_l_odd : Fd P w K mg base "_law_odd" 3 P_l_odd := F_l_odd (T := T) (dn__law_odd X G S) f_l_any
  have f_l_odd_part : Fd P w K mg base "_law_odd_part" 3 (P_l_odd_part T) := F_l_odd_part (T := T) (dn__law_odd_part X G S) f_l_any
  have f_l_order_part : Fd P w K mg base "_law_order_part" 4 (P_l_order_part T) := F_l_order_part (T := T) (dn__law_order_part X G S) f_l_pull f_l_any f_l_mixed f_l_odd_part
  have f_l_lot_part : Fd P w K mg base "_law_lot_part" 3 (P_l_lot_part T) := F_l_lot_part (T := T) (dn__law_lot_part X G S) f_l_pull f_l_any
  have f_l_row_part : Fd P w K mg base "_law_row_part" 4 (P_l_row_part T) := F_l_row_part (T := T) (dn__law_row_part X G S) f_l_pull f_l_any f_l_odd_part
  have f_l_some_paper : Fd P w K mg base "_law_some_paper" 5 (P_l_some_paper T) := F_l_some_paper (T := T) (dn__law_some_paper X G S) f_l_pull f_l_any f_l_order_part f_l_row_part f_l_lot_part f_l_row f_l_stuck_lot f_l_core f_l_pairs f_l_joined
  have f_l_bent_paper : Fd P w K mg base "_law_bent_paper" 4 (P_l_bent_paper T) := F_l_bent_paper (T := T) (dn__law_bent_paper X G S) f_l_pull f_l_any f_l_odd_part
  obtain ⟨fdF, FF⟩ := S.def_ 28 (d := ⟨fun K => He.ga K "flaw", "flaw", "flaw", s_flaw, 0⟩) rfl rfl
  have kF := K_flaw (P := P) (w := w) (mg := mg) (base := base) (T := T) FF f_is_paper f_paper_flaw
  have gF := He.glo_ok X G (S.gl "flaw" (by decide +kernel))
  exact {
    draws := f_l_draws
    any := f_l_any
    names := f_l_names
    records := f_l_records
    idle := f_l_with_idle
    book := f_l_book
    fitting := f_l_fitting
    some_ := f_l_some_paper
    bent := f_l_bent_paper
    due := f_l_due
    odd := f_l_odd
    real := f_real
    like1 := f_like1
    like2 := f_like2
    flaw := fd_of kF FF (FF.binds fun _ _ _ _ _ _ us hl => match us, hl with | [_, _], _ => rfl) gF
    kw := ⟨_, _, gF, FF.kp, kF, kb_flaw FF fun _ _ _ _ _ _ _ _ => rfl⟩ }
theorem law_facts (X : K.In h) (G : h.Ns mainGlobals mg) (S : Says w K) {f : Addr} (hfa : mg ("law" : Str) = some (.ref f)) :
    ∃ fd : FuncData, (∀ (s : Shared) (v : Value), BindsTo s fd ⟨[v], []⟩ [("_law_script", v)]) ∧ ∀ base : Heap, K.In base → base.Ns mainGlobals mg → FnOk P w K mg base CX0 11 f fd ["_law_script"] (SpLaw K) := by
  obtain ⟨fd, F⟩ := S.def_ 67 (d := ⟨fun K => He.ga K "law", "law", "law", s_law, 0⟩) rfl rfl
  have e := hfa.symm.trans (He.glo_ok X G (S.gl "law" (by decide +kernel)))
  cases e
  obtain ⟨oc, od, kV, doc, pm, an, cdv, ct, osl, e1, lk, cd⟩ := F.ex
  subst e1
  refine ⟨_, fun s v => .of_eq rfl, fun base _ _ => F_law (moOf X G S) F (calls_of X G S (moOf X G S) (tbOf X G S) rfl rfl rfl rfl)⟩
end
end FD
end
section
set_option maxHeartbeats 0
open PySem PySem.W PySem.Calls PyProof.Rows
theorem PySem.Challenge.cw_firstdecides_k72_whole_papers_bent_holds : PySem.Challenge.rw_firstdecides_k72_whole_papers_bent.Holds := by
  refine FDT.holds_of ?_
  refine L2.walk_ofE (l := PySem.Challenge.rw_firstdecides_k72_whole_papers_bent) (n := 63) (k := 11) (x := "_law_script") (CX := L2.CX0) rfl (by decide) (by kernel_rfl) ⟨rfl, by decide, by decide⟩ ?F (fun _ _ _ _ z => z)
  intro w mg fa h Y G hmg0
  obtain ⟨K, KX, c⟩ := Y
  have hmg : mg ("law" : PySem.Str) = some (.ref fa) := by
    have e : (HandSHeadRun.topDef (OpenLaw.row PySem.Challenge.rw_firstdecides_k72_whole_papers_bent).prog 180).name = ("law" : PySem.Str) := by kernel_rfl
    rw [← e]
    exact hmg0
  obtain ⟨fd, hb, hF⟩ := FD.law_facts (P := (PySem.Challenge.rw_firstdecides_k72_whole_papers_bent).prog) (w := w) KX G c hmg
  exact ⟨K, fd, FD.SpLaw K, KX, hb, fun H a ns hl _ hS => ⟨ns, a, hl, rfl, hS, fun _ => rfl⟩, hF⟩
end
