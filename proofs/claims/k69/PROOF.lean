import PyProof.Rows.All
import Wide.All
import OpenK.AllK
import Wide.FinOn
import KE.KNestM
import HandS.ForMost
import HandS.Exc
import HandS.Defaults
import HandS.Slots
import HandS.SlotsOwn
import HandS.HeadHook1
import HandS.HeadHook2
import HandS.HeadHook4
import HandS.Nested
import HandS.EndTab
import HandS.HeadWalk
import HandS.AnyAll
import PySem.Challenge.RW_pieceround_k69_whole_joined_by_marks
import KE.KStateDown
import HandS.Head0
import HandS.Head1
import HandS.Head2
import HandS.HeadEnd
import HandS.Iter
import HandS.Walk
import HandS.Zip
import KE.GoesMore
import KE.GoesEnum
import HandS.Evl
import HandS.DictComp
import HandS.TupAny
import HandS.IsInst
import HandS.Style
import HandS.Star
import KE.SortData
import KE.KDictSum
import HandS.Conv
import PyProof.SeqIndex
import KE.KDictDisplayH
import KE.KSuper
import HandS.GenList
import PyProof.GenQ
import KE.KDictIter
import HandS.Strs
import HandS.SetKeys
import KE.KDictPairs
import KE.KDictCopyH
import HandS.TupSets
import PyProof.TupleIter
import HandS.Wide
import HandS.SetFor
import HandS.Deep
import HandS.NestedK
section
set_option Elab.async false
set_option linter.all false
set_option maxRecDepth 100000
set_option maxHeartbeats 4000000
/-! What the top has written, as far as the walks of the defs lean on it. -/
namespace PR
open PySem PySem.Spec PyProof.Rows L2
/-! ### the text by places -/
def top (i : Nat) : Stmt := PySem.Challenge.pw_pieceround_k69_whole_joined_by_marks.main.body.getD i (.Pass ⟨0, 0, 0, 0⟩)
/-- a def of the text: where it stands behind the top, its names, its statement -/
structure DfP where
  ad : PySem.W.Frag → Addr
  nm : Str
  ql : Str
  st : Stmt
def gF (x : Str) (i : Nat) : DfP := ⟨fun K => He.ga K x, x, x, top i⟩
def mF (c : Str) (m q : Str) (i j : Nat) : DfP := ⟨fun K => He.ma K (He.ga K c) m, m, q, inClass (top i) j⟩
/-- the getter of the property m of the class c -/
def getterOf (K : PySem.W.Frag) (p : Addr) : Addr := match PySem.W.recIn K p "property" with
  | some (.ref g :: _) => g
  | _ => 0
def pF (c : Str) (m q : Str) (i j : Nat) : DfP := ⟨fun K => getterOf K (He.ma K (He.ga K c) m), m, q, inClass (top i) j⟩
def dfs : List DfP := [
  gF "is_whole" 12, gF "is_integer" 13, gF "is_name" 14, gF "require_count" 15, gF "is_row" 18, gF "block_ends" 19, gF "needless_in" 21,
  mF "Order" "__init__" "Order.__init__" 22 1, pF "Order" "above" "Order.above" 22 3, pF "Order" "below" "Order.below" 22 4, pF "Order" "places" "Order.places" 22 7,
  mF "Order" "form" "Order.form" 22 13, mF "Order" "__len__" "Order.__len__" 22 16, mF "Order" "__contains__" "Order.__contains__" 22 17,
  gF "form_in" 23, gF "require_order" 24, gF "require_whole" 25, gF "require_name" 26,
  gF "walk_of" 28, gF "corner_from" 29, gF "corners_of" 30, gF "angle_of" 31, gF "angles_of" 32,
  mF "Crossings" "__init__" "Crossings.__init__" 33 1, mF "Crossings" "indices" "Crossings.indices" 33 2, mF "Crossings" "meets_oddly" "Crossings.meets_oddly" 33 4,
  mF "Crossings" "is_odd" "Crossings.is_odd" 33 5, mF "Crossings" "frame" "Crossings.frame" 33 6, mF "Crossings" "cleared" "Crossings.cleared" 33 7,
  gF "parity_of" 34, gF "marks_of" 35, gF "marks" 36, gF "are_marked_alike" 37] ++ [
  gF "are_whole_rows" 44, gF "put_behind" 45, gF "led_rows" 46, gF "is_kinds" 47, gF "rows_along" 48, gF "rows_behind" 49, gF "require_course" 50, gF "order_behind" 51,
  gF "are_places" 56, gF "is_walked" 57, gF "is_course" 58, gF "next_places" 59, gF "require_few" 60, gF "walked" 61, gF "class_of" 62, gF "require_two" 63,
  gF "walk_between" 64, gF "are_joined" 65, gF "is_walk" 66, gF "is_closed" 67] ++ [
  gF "_law_dice" 69, gF "_law_roll" 70, gF "_law_pick" 71, gF "_law_mixed" 72, gF "_law_nth" 73, gF "_law_names_drawn" 74, gF "_law_is_whole" 75, gF "_law_rows_drawn" 76,
  gF "_law_led" 77, gF "_law_led_far" 78, gF "_law_forms" 79, gF "_law_corners" 80, gF "_law_angles" 81, gF "_law_size" 82, gF "_law_parity" 83, gF "_law_marks" 84,
  gF "_law_kinds_drawn" 85, gF "_law_places" 86, gF "_law_class" 87, gF "_law_right" 88, gF "law" 89]
/-! ### one def's function object -/
abbrev FuV : Type := Option (Str × Str × Arguments × FuncBody × Scope × Addr × List (Str × Addr) × Value × Addr)
def fuOf (K : PySem.W.Frag) (a : Addr) : FuV := match K.lookup a with
  | some ⟨_, _, .func d, _⟩ => some (d.name, d.qualname, d.params, d.body, d.scope, d.globals, d.closure, d.defaults, d.builtins)
  | _ => none
def DfP.val (d : DfP) : FuV := some (d.nm, d.ql, defArgs d.st, .stmts (defBody d.st), defScope d.st, mainGlobals, [], .none, builtinsNs)
def DfP.fine (K : PySem.W.Frag) (d : DfP) : Bool := PySem.W.keepIn K (.ref (d.ad K)) && match K.lookup (d.ad K) with
  | some ⟨_, _, .func g, _⟩ => PySem.W.codeIn K g.code d.ql
  | _ => false
theorem DfP.fun_ {K : PySem.W.Frag} {d : DfP} (e : fuOf K (d.ad K) = d.val) (c : d.fine K = true) : ∃ fd, Fun K d.nm d.ql d.st (d.ad K) fd := by
  obtain ⟨kp, c2⟩ := Bool.and_eq_true_iff.mp c
  unfold fuOf at e
  cases q : K.lookup (d.ad K) with
  | none =>
    rw [q] at c2
    cases c2
  | some o =>
    obtain ⟨oc, od, dt, osl⟩ := o
    rw [q] at c2 e
    cases dt with
    | func g =>
      obtain ⟨n1, n2, n3, n4, n5, n6, n7, n8, n9, n10, n11, n12, n13, n14, n15⟩ := g
      have e2 : (some (n1, n2, n3, n4, n5, n6, n7, n8, n15) : FuV) = some (d.nm, d.ql, defArgs d.st, .stmts (defBody d.st), defScope d.st, mainGlobals, [], .none, builtinsNs) := e
      simp only [Option.some.injEq, Prod.mk.injEq] at e2
      obtain ⟨h1, h2, h3, h4, h5, h6, h7, h8, h9⟩ := e2
      subst h1 h2 h3 h4 h5 h6 h7 h8 h9
      exact ⟨_, ⟨oc, od, n9, n10, n11, n12, n13, n14, osl, rfl, q, c2⟩, kp⟩
    | _ => cases c2
/-! ### looks at classes -/
def sclB (K : PySem.W.Frag) (c : Str) : Bool := PySem.W.plainGet K (He.ga K c) Str.empty && (PySem.W.isClsIn K (He.ga K c) && (PySem.W.plainOver K (He.ga K c) && He.eqO (PySem.W.findIn K (.ref (He.ga K c)) "__setattr__") (some (some (.builtin "object.__setattr__")))))
theorem sclB_ok {K : PySem.W.Frag} {c : Str} (h : sclB K c = true) : SlX.SCls K (He.ga K c) := by
  obtain ⟨h1, h⟩ := He.ba h
  obtain ⟨h2, h⟩ := He.ba h
  obtain ⟨h3, h4⟩ := He.ba h
  exact ⟨h1, h2, h3, He.eqO_ok h4⟩
def slotB (K : PySem.W.Frag) (c f : Str) (i : Nat) : Bool :=
  He.eqO (PySem.W.findIn K (.ref (He.ga K c)) f) (some (some (.ref (He.ma K (He.ga K c) f)))) && (He.eqO (PySem.W.specialIn K (.ref (He.ma K (He.ga K c) f)) "__get__") (some (some (.builtin "member_descriptor.__get__"))) &&
    (decide (PySem.W.takesIn K (.ref (He.ma K (He.ga K c) f)) = some true) && (decide (PySem.W.typeIn K (.ref (He.ma K (He.ga K c) f)) = some (.type "member_descriptor")) && (decide (PySem.W.slotIn K (He.ma K (He.ga K c) f) (He.ga K c) = some i) && decide (i < 1000)))))
theorem slotB_ok {K : PySem.W.Frag} {c f : Str} {i : Nat} (h : slotB K c f i = true) : SlX.Slot1 K (He.ga K c) f (He.ma K (He.ga K c) f) i := by
  obtain ⟨h1, h⟩ := He.ba h
  obtain ⟨h2, h⟩ := He.ba h
  obtain ⟨h3, h⟩ := He.ba h
  obtain ⟨h4, h⟩ := He.ba h
  obtain ⟨h5, h6⟩ := He.ba h
  exact ⟨He.eqO_ok h1, He.eqO_ok h2, of_decide_eq_true h3, of_decide_eq_true h4, of_decide_eq_true h5, of_decide_eq_true h6⟩
/-- a property: where it stands, its getter -/
structure PropC (K : PySem.W.Frag) (C : Addr) (f : Str) (p g : Addr) : Prop where
  at_ : PySem.W.findIn K (.ref C) f = some (some (.ref p))
  get : PySem.W.specialIn K (.ref p) "__get__" = some (some (.builtin "property.__get__"))
  tk : PySem.W.takesIn K (.ref p) = some true
  rc : ∃ rest, PySem.W.recIn K p "property" = some (.ref g :: rest)
def propB (K : PySem.W.Frag) (c f : Str) : Bool :=
  He.eqO (PySem.W.findIn K (.ref (He.ga K c)) f) (some (some (.ref (He.ma K (He.ga K c) f)))) && (He.eqO (PySem.W.specialIn K (.ref (He.ma K (He.ga K c) f)) "__get__") (some (some (.builtin "property.__get__"))) &&
    (decide (PySem.W.takesIn K (.ref (He.ma K (He.ga K c) f)) = some true) && match PySem.W.recIn K (He.ma K (He.ga K c) f) "property" with
      | some (.ref _ :: _) => true
      | _ => false))
theorem propB_ok {K : PySem.W.Frag} {c f : Str} (h : propB K c f = true) : PropC K (He.ga K c) f (He.ma K (He.ga K c) f) (getterOf K (He.ma K (He.ga K c) f)) := by
  obtain ⟨h1, h⟩ := He.ba h
  obtain ⟨h2, h⟩ := He.ba h
  obtain ⟨h3, h4⟩ := He.ba h
  refine ⟨He.eqO_ok h1, He.eqO_ok h2, of_decide_eq_true h3, ?_⟩
  unfold getterOf
  split at h4
  · rename_i g r e
    exact ⟨r, by rw [e]⟩
  · cases h4
def methB (K : PySem.W.Frag) (c m : Str) : Bool := (He.Fa.meth c m).ok K
def mkrB (K : PySem.W.Frag) (c : Str) : Bool := (He.Fa.mkr c).ok K
def isiB (K : PySem.W.Frag) (c : Str) : Bool := He.eqO (PySem.W.findIn K (.ref (He.ga K c)) "__class__") (some (some (.builtin "object.__class__"))) && (He.eqO (PySem.W.specialIn K (.builtin "object.__class__") "__get__") (some (some (.builtin "getset_descriptor.__get__"))) &&
  (decide (PySem.W.takesIn K (.builtin "object.__class__") = some true) && (decide (PySem.W.mroIn K (He.ga K c) (.type "object") = some true) && decide (PySem.W.kitOne K (.ref (He.ga K c)) (.ref (He.ga K c)) = some true))))
theorem isiB_ok {K : PySem.W.Frag} {c : Str} (h : isiB K c = true) : SlX.SIsi K (He.ga K c) ∧ PySem.W.kitOne K (.ref (He.ga K c)) (.ref (He.ga K c)) = some true := by
  obtain ⟨h1, h⟩ := He.ba h
  obtain ⟨h2, h⟩ := He.ba h
  obtain ⟨h3, h⟩ := He.ba h
  obtain ⟨h4, h5⟩ := He.ba h
  exact ⟨⟨He.eqO_ok h1, He.eqO_ok h2, of_decide_eq_true h3, of_decide_eq_true h4⟩, of_decide_eq_true h5⟩
/-! ### all looks -/
def globs : List Str := (["is_whole", "is_integer", "is_name", "require_count", "is_row", "block_ends", "needless_in", "Order", "form_in", "require_order", "require_whole", "require_name",
  "walk_of", "corner_from", "corners_of", "angle_of", "angles_of", "Crossings", "parity_of", "marks_of", "marks", "are_marked_alike", "are_whole_rows", "put_behind", "led_rows", "is_kinds", "rows_along", "rows_behind", "require_course", "order_behind"] : List Str) ++
  (["are_places", "is_walked", "is_course", "next_places", "require_few", "walked", "class_of", "require_two", "walk_between", "are_joined", "is_walk", "is_closed"] : List Str) ++ (["_law_dice", "_law_roll", "_law_pick", "_law_mixed", "_law_nth", "_law_names_drawn", "_law_is_whole", "_law_rows_drawn", "_law_led", "_law_led_far", "_law_forms", "_law_corners", "_law_angles", "_law_size", "_law_parity", "_law_marks", "_law_kinds_drawn", "_law_places", "_law_class", "_law_right", "law"] : List Str) ++
  (["KINDS", "WALKED"] : List Str)
def frees : List Str := ["len", "isinstance", "tuple", "str", "int", "bool", "all", "any", "sorted", "enumerate", "zip", "range", "max", "min", "list", "set", "dict", "sum", "next", "abs", "reversed"]
def intsG : List (Str × Int) := [("MAX_LETTERS", 8), ("MAX_NAMES", 40), ("MAX_COURSE", 4000), ("MAX_WALKED", 7), ("MAX_ROUNDS", 4000), ("GREAT", 10 ^ 60)]
def strsG : List (Str × Str) := [("LETTERS", "abcdefghijklmnopqrstuvwxyz"), ("UPPER", "upper"), ("LOWER", "lower"), ("EVEN", "even")]
def slotsO : List (Str × Str × Nat) := [("Order", "own_is_whole", 0), ("Order", "own_lower", 1), ("Order", "own_lower_at", 2), ("Order", "own_names", 3), ("Order", "own_needless", 4), ("Order", "own_places", 5), ("Order", "own_text", 6), ("Order", "own_upper", 7), ("Order", "own_upper_at", 8),
  ("Crossings", "own_names", 0), ("Crossings", "own_rows", 1)]
def methsO : List (Str × Str) := [("Order", "form"), ("Order", "__len__"), ("Order", "__contains__"), ("Crossings", "indices"), ("Crossings", "meets_oddly"), ("Crossings", "is_odd"), ("Crossings", "frame"), ("Crossings", "cleared")]
def propsO : List (Str × Str) := [("Order", "above"), ("Order", "below"), ("Order", "places")]
def clsO : List Str := ["Order", "Crossings"]
def checks (K : PySem.W.Frag) : Bool :=
  dfs.all (fun d => d.fine K) && (globs.all (fun x => (He.Fa.glo x).ok K) && (frees.all (fun x => (He.Fa.free x).ok K) && (intsG.all (fun p => (He.Fa.int p.1 p.2).ok K) && (strsG.all (fun p => (He.Fa.str p.1 p.2).ok K) &&
    (slotsO.all (fun p => slotB K p.1 p.2.1 p.2.2) && (methsO.all (fun p => methB K p.1 p.2) && (propsO.all (fun p => propB K p.1 p.2) && (clsO.all (fun c => sclB K c && (mkrB K c && isiB K c)) &&
      (He.tupB K "KINDS" [.str "upper", .str "lower", .str "even"] && He.tupB K "WALKED" [.str "upper", .str "lower"])))))))))
/-- the code object of Crossings.frame, its table -/
def tCode (K : PySem.W.Frag) : Addr := match K.lookup (He.ma K (He.ga K "Crossings") "frame") with
  | some ⟨_, _, .func d, _⟩ => (match d.code with
    | .ref c => c
    | _ => 0)
  | _ => 0
def tTab (K : PySem.W.Frag) : Addr := He.tabOf K (tCode K)
/-- what the walks lean on: K the written part, mg the module's names -/
structure W0 (K : PySem.W.Frag) (mg : Str → Option Value) (base : Heap) : Prop where
  fu : ∀ d ∈ dfs, ∃ fd, Fun K d.nm d.ql d.st (d.ad K) fd
  glo : ∀ x ∈ globs, mg x = some (.ref (He.ga K x))
  fre : ∀ x ∈ frees, mg x = none
  ing : ∀ p ∈ intsG, ∃ t, mg p.1 = some (.int p.2 t)
  stg : ∀ p ∈ strsG, ∃ t, mg p.1 = some (.str p.2 t)
  slt : ∀ p ∈ slotsO, SlX.Slot1 K (He.ga K p.1) p.2.1 (He.ma K (He.ga K p.1) p.2.1) p.2.2
  met : ∀ p ∈ methsO, Meth K (He.ga K p.1) p.2 (He.ma K (He.ga K p.1) p.2)
  prp : ∀ p ∈ propsO, PropC K (He.ga K p.1) p.2 (He.ma K (He.ga K p.1) p.2) (getterOf K (He.ma K (He.ga K p.1) p.2))
  scl : ∀ c ∈ clsO, SlX.SCls K (He.ga K c)
  mkr : ∀ c ∈ clsO, Mk K (He.ga K c) (He.ma K (He.ga K c) "__init__")
  isi : ∀ c ∈ clsO, SlX.SIsi K (He.ga K c) ∧ PySem.W.kitOne K (.ref (He.ga K c)) (.ref (He.ga K c)) = some true
  kinds : ∀ H : Hp, SqT K H (He.ga K "KINDS") [.str "upper", .str "lower", .str "even"]
  walked : ∀ H : Hp, SqT K H (He.ga K "WALKED") [.str "upper", .str "lower"]
  /-- the code object of Crossings.frame and its table, for the generator expression in it -/
  tab : GxR.TabB base mg (tCode K) (tTab K)
  tabc : ∀ (oc : Value) (od : Option Addr) (fd : FuncData) (sl : Array (Option Value)), K.lookup (He.ma K (He.ga K "Crossings") "frame") = some ⟨oc, od, .func fd, sl⟩ → fd.code = .ref (tCode K)
end PR
end
section
set_option Elab.async false
set_option linter.all false
set_option maxRecDepth 100000
set_option maxHeartbeats 0
/-! The top's run in the kernel, and the facts of PR.W0 read off the heap behind it. -/
namespace PR
open PySem PySem.Spec PyProof.Rows L2
abbrev R : PySem.W.OpenRow := PySem.W.OpenLaw.row PySem.Challenge.rw_pieceround_k69_whole_joined_by_marks
def loose : List Str := (["_wall", "PieceError", "InvalidOrder", "InvalidCourse", "InvalidCount", "UnknownName", "TooMany", "MAX_LETTERS", "GREAT", "LETTERS", "is_whole", "is_integer", "is_name", "require_count", "MAX_NAMES", "is_row", "block_ends", "row_in", "needless_in", "Order", "form_in", "require_order", "require_whole", "require_name", "walk_of", "corner_from", "corners_of", "angle_of", "angles_of", "Crossings"] : List Str) ++ (["parity_of", "marks_of", "marks", "are_marked_alike", "KINDS", "MAX_COURSE", "UPPER", "LOWER", "EVEN", "are_whole_rows", "put_behind", "led_rows", "is_kinds", "rows_along", "rows_behind", "require_course", "order_behind", "MAX_WALKED", "MAX_ROUNDS", "WALKED", "are_places", "is_walked", "is_course", "next_places", "require_few", "walked", "class_of", "require_two", "walk_between", "are_joined"] : List Str) ++ (["is_walk", "is_closed", "_law_dice", "_law_roll", "_law_pick", "_law_mixed", "_law_nth", "_law_names_drawn", "_law_is_whole", "_law_rows_drawn", "_law_led", "_law_led_far", "_law_forms", "_law_corners", "_law_angles", "_law_size", "_law_parity", "_law_marks", "_law_kinds_drawn", "_law_places", "_law_class", "_law_right"] : List Str)
/-- the addresses that are looked at -/
def ads : List Addr := List.range 760
def kOf (g : Addr → Option Obj) : PySem.W.Frag := He.frT g ads
abbrev Al : Type := Bool × List FuV
def obK (g : Addr → Option Obj) : Al := (checks (kOf g) && (PySem.W.codeHdIn (kOf g) (tCode (kOf g)) (tTab (kOf g)) && (match g (tTab (kOf g)) with
  | some o => He.emptyTab o
  | none => false)), dfs.map fun d => fuOf (kOf g) (d.ad (kOf g)))
def vaK : Al := (true, dfs.map DfP.val)
structure Says (h : Heap) (K : PySem.W.Frag) : Prop where
  ck : checks K = true
  hd : PySem.W.codeHdIn K (tCode K) (tTab K) = true
  out : K.lookup (tTab K) = none
  emp : h.get? (tTab K) = some { cls := .none, data := .fields #[] }
  fu : ∀ d ∈ dfs, fuOf K (d.ad K) = d.val
theorem says_of {h : Heap} (e : obK h.get? = vaK) : Says h (kOf h.get?) := by
  obtain ⟨e1, e2⟩ := Prod.mk.inj (show ((_, _) : Bool × List FuV) = (true, dfs.map DfP.val) from e)
  obtain ⟨c1, c2⟩ := He.ba e1
  obtain ⟨c2, c3⟩ := He.ba c2
  cases q : h.get? (tTab (kOf h.get?)) with
  | none =>
    rw [q] at c3
    cases c3
  | some o =>
    rw [q] at c3
    refine ⟨c1, c2, He.frT_none q c3, ?_, fun d hd => ?_⟩
    · rw [q, He.emptyTab_eq c3]
    · exact List.map_inj_left.mp e2 d hd
def hk : PySem.W.Hook where
  α := Al
  obs := fun s => obK s.heap.get?
  val := fun _ => vaK
  says := fun _ h => ∃ K : PySem.W.Frag, K.In h ∧ Says h K
  of := fun _ _ e => ⟨_, He.frT_in, says_of e⟩
  keeps := fun _ _ _ ⟨K, hK, c⟩ k => ⟨K, PySem.W.Frag.In.keeps hK k, ⟨c.ck, c.hd, c.out, k _ _ c.emp, c.fu⟩⟩
def ob (s : PySem.W.SharedT) : Al := obK (HandSHeadRun.getT s)
theorem ob_eq (s : PySem.W.SharedT) : ob s = hk.obs s.abs := by
  have e : HandSHeadRun.getT s = s.abs.heap.get? := funext (HandSHeadRun.getT_eq s)
  show obK (HandSHeadRun.getT s) = obK s.abs.heap.get?
  rw [e]
theorem run (w : World) : HandSHeadRun.RunEq R (PySem.W.view R.prog [89]) hk ob 6000 loose w := by
  intro os
  kernel_rfl
end PR
end
section
set_option Elab.async false
set_option linter.all false
set_option maxRecDepth 100000
set_option maxHeartbeats 4000000
/-! Rules of my own, first part: enumerate over a tuple. -/
namespace PR
open PySem PySem.Spec PyProof.Rows L2

/-! ### enumerate(t) of one argument -/
theorem meets_enum1 {v : Value} {ob : Obj} {W : Heap → Prop} (B : Begins v ob W) :
    Meets (Builtin.«enumerate.__new__» ⟨[.type "enumerate", v], []⟩) (fun _ R s => W s.heap ∧
      R (.ok (.ret (.ref (s.heap.push ob).objs.size))) { s with heap := (s.heap.push ob).push { cls := .type "enumerate", data := .fields #[.none, .bool false, .ref s.heap.objs.size, rawInt 0, .none, .none] } }) :=
  .of_wp fun pr wd Ar Rr st0 hh => by
    obtain ⟨hp, gn, dr, tkk, oss⟩ := st0; obtain ⟨hW, hR⟩ := hh
    have hsub := sub_enumerate
    have goB : ∀ {A' : Around} {E' : Value → Shared → Prop} {Q' : Value → Shared → Prop}, Q' (.ref hp.objs.size) ⟨hp.push ob, gn, dr, tkk, oss⟩ → wpAny (model pr wd) A' (pyIter v) Q' E' ⟨hp, gn, dr, tkk, oss⟩ :=
      fun qq => B.iter pr wd _ _ ⟨hp, gn, dr, tkk, oss⟩ _ hW qq
    wp_walk using goB
    refine wpAny_stack_any fun stk => wpAny_pure ?_
    split
    · rename_i cc _ _ _ _ _
      cases (cc == Value.type "enumerate")
      · wp_walk using goB
        exact ⟨_, rfl, hR⟩
      · wp_walk using goB
        exact ⟨_, rfl, hR⟩
    · wp_walk using goB
      exact ⟨_, rfl, hR⟩
section
variable {prog : Program} {w : World} {A : Around} {E : Value → Shared → Prop} {s : Shared}
theorem call_enum1 {v : Value} {ob : Obj} {W : Heap → Prop} {Q : Value → Shared → Prop} (B : Begins v ob W) (hW : W s.heap)
    (k : ∀ h2, IsEnum h2 (s.heap.objs.size + 1) s.heap.objs.size 0 .none → h2.get? s.heap.objs.size = some ob → h2.objs.size = s.heap.objs.size + 2 → (∀ b x, s.heap.get? b = some x → h2.get? b = some x) → Q (.ref (s.heap.objs.size + 1)) { s with heap := h2 }) :
    wpAny (model prog w) A (call (.type "enumerate") [v]) Q E s := by
  refine callType_new F.called_enumerate (by decide) (F.typeCall_enumerate_1 _) (F.newCall_enumerate_1 _) (fun obj => F.args_object_init_2 obj _) F.entry_enumerate_new (meets_enum1 B) ⟨hW, ?_⟩
  have sz1 : (s.heap.push ob).objs.size = s.heap.objs.size + 1 := Heap.size_push ..
  show _ ∧ _
  rw [sz1]
  have hE1 : IsEnum ((s.heap.push ob).push { cls := .type "enumerate", data := .fields #[.none, .bool false, .ref s.heap.objs.size, rawInt 0, .none, .none] }) (s.heap.objs.size + 1) s.heap.objs.size 0 .none := by
    have := Heap.get?_push_size (s.heap.push ob) (o := { cls := .type "enumerate", data := .fields #[.none, .bool false, .ref s.heap.objs.size, rawInt 0, .none, .none] }) rfl
    rw [sz1] at this; exact this
  refine ⟨⟨_, hE1, rfl⟩, k _ hE1 (Heap.get?_push_of_some _ (Heap.get?_push_size _ B.free)) (by rw [Heap.size_push, sz1]) fun b x e => Heap.get?_push_of_some _ (Heap.get?_push_of_some _ e)⟩
end
/-- the tuple at a, each item in a new pair with its place -/
def ItE (K : PySem.W.Frag) (a : Addr) : It :=
  ⟨fun i H => ∃ (xs : List V) (x : V), SqT K H a xs ∧ xs[i]? = some x,
   fun i H v H' => ∃ T x, v = .ref T ∧ H T = none ∧ H' = upd H T (.tup [.int (i : Nat), x]) ∧ ∀ xs, SqT K H a xs → xs[i]? = some x,
   fun i H => ∃ xs : List V, SqT K H a xs ∧ xs.length ≤ i⟩
theorem turn_enumT {P : Program} {w : World} {K : PySem.W.Frag} {elts : List Expr} {kk : Nat} {tpos : Pos} (a e it : Addr) :
    Turn P w K (.Tuple elts kk tpos) (ItE K a) [e, it] e (fun i h => (∃ old, IsEnum h e it ((i : Nat) : Int) old) ∧ h.IsTupleIter it a i ∧ e ≠ it ∧ a ≠ it ∧ a ≠ e) where
  mem := List.mem_cons_self
  obj := fun i h st b hb => by
    obtain ⟨⟨old, he⟩, ⟨o, ho, _, hd⟩, _⟩ := st
    rcases List.mem_cons.mp hb with z | hb
    · subst z; exact ⟨_, he, fun v q => nomatch q⟩
    · rcases List.mem_cons.mp hb with z | hb
      · subst z; exact ⟨o, ho, fun v q => by rw [hd] at q; cases q⟩
      · cases hb
  keep := fun i h h' st k => by
    obtain ⟨⟨old, he⟩, hi, hne⟩ := st
    exact ⟨⟨old, k e (by simp) _ he⟩, hi.at fun o q => k it (by simp) o q, hne⟩
  item := by
    intro X hP hw hK hc i pins s σ H E I hf st hg
    subst hP hw hK
    obtain ⟨⟨old, he⟩, hit, hne, hai, hae⟩ := st
    obtain ⟨xs, x, hq, hx⟩ := hg
    obtain ⟨its, rv, p, hz⟩ := I.tuple hq
    obtain ⟨u, hu, ru⟩ := rv.get hx
    have hlt : i < its.toArray.size := by
      have := (List.getElem?_eq_some_iff.mp hu).1
      simpa using this
    have hel : e < s.heap.objs.size := Heap.lt_size he
    have hil : it < s.heap.objs.size := by obtain ⟨_, q, _⟩ := hit; exact Heap.lt_size q
    have hef : e ∉ [it, a] := fun z => by
      rcases List.mem_cons.mp z with z | z
      · exact hne z
      · exact hae (List.mem_singleton.mp z).symm
    refine wpAny_pyNext_enum_itemD (Draws.tuple (A := X.A.in1) (I.ok.hd hc) it a hai its.toArray) he ⟨hit, p⟩ hlt hne hef fun y h' tk hy ho hst hT hsz hk => ?_
    have eyu : y = u := by
      have h1 : its[i]? = some y := by simpa using hy
      rw [hu] at h1
      exact (Option.some.inj h1).symm
    subst eyu
    refine ⟨_, rfl, wpAny_letOwnedTupleGo_enum (s := { s with heap := h', toks := tk + 1 }) ho fun h'' he' sb => ?_⟩
    have hT2 : h''.get? s.heap.objs.size = some { cls := .type "tuple", data := .seq #[.int i tk, y] } := (sb.2 _ (Nat.ne_of_gt hel)).trans hT
    have nw : ObjOk X.prog X.w (upd H s.heap.objs.size (.tup [.int (i : Nat), x])) h'' s.heap.objs.size (.tup [.int (i : Nat), x]) :=
      ⟨by show 2 ≤ sizeLine; decide, [.int i tk, y], .cons ⟨_, rfl⟩ (.cons ru .nil), ⟨_, hT2, rfl, _, rfl⟩⟩
    have I1 : Inv X pins σ (upd H s.heap.objs.size (.tup [.int (i : Nat), x])) { s with heap := h'', toks := tk + 1 } :=
      I.turnedNew (ch := [e, it]) (fun b ob hb q => (sb.2 b (fun z => hb (by simp [z]))).trans (hk b ob (fun z => hb (by simp [z])) (fun z => hb (by simp [z])) q)) hf (Nat.le_refl _) nw
    refine ⟨.ref s.heap.objs.size, _, I1, rfl, ⟨_, x, rfl, I.hok.fresh (Nat.le_refl _), rfl, fun ys hy => by rw [I.tuple_inj hy hq]; exact hx⟩, ⟨⟨y, ?_⟩, hst.1.at fun o q => (sb.2 it (Ne.symm hne)).trans q, hne, hai, hae⟩, fun b hb => ?_⟩
    · rw [show ((i + 1 : Nat) : Int) = (i : Int) + 1 by omega]
      exact he'
    · have hb' : b < s.heap.objs.size := by
        rcases List.mem_cons.mp hb with z | hb
        · rw [z]; exact hel
        · rw [List.mem_singleton.mp hb]; exact hil
      rw [upd_ne (Nat.ne_of_lt hb')]
      exact (hf b hb).1
  done := by
    intro X hP hw hK hc i pins s σ H E I hf st hg
    subst hP hw hK
    obtain ⟨⟨old, he⟩, hit, hne, hai, hae⟩ := st
    obtain ⟨xs, hq, hx⟩ := hg
    obtain ⟨its, rv, p, hz⟩ := I.tuple hq
    obtain ⟨f0, f1, f2, f3, f4, f5⟩ := hf it (by simp)
    have hl := rv.length
    have hend : its.toArray[i]? = none := by simp; omega
    -- the end of the tuple's own walk
    have hT : s.TypeIs (.ref e) "enumerate" := ⟨_, he, rfl⟩
    unfold pyNext
    refine wpAny_bind (wpAny_attempt (wpAny_callSpecial?_slot (name := Str.ofString "__next__") hT F.slot_enumerate_next
      (wpAny_call_entry F.slot_enumerate_next hT F.entry_enumerate_next ?_ (F.args_enumerate_next_1 _))))
    show wpAny _ _ (field (.ref e) 2 >>= _) _ _ _
    refine wpAny_bind (wpAny_field he rfl (x := .ref it) rfl ?_)
    refine wpAny_bind (wpAny_nextOf_tuple_end (I.ok.hd hc) hit p hend fun h' x he' hx' => ?_)
    obtain ⟨o, ho, hc2⟩ := hx'
    refine wpAny_bind (wpAny_isInstance (T := "StopIteration") (b := true) ⟨o, ho, hc2⟩ isSubtype_stop ?_)
    exact wpAny_pure ⟨rfl, I.turned (t' := s.toks) (fun b o hb q => he' b o hb q) f0 f1 f3 f4 f5⟩
  self := fun A i s Q E st h => let ⟨⟨_, he⟩, _⟩ := st; wpAny_pyIter_enum he h
def iEnumT (K : PySem.W.Frag) (ta : TA) : TI := fun σ H R => ta σ H fun vs H1 => ∃ a xs, vs = [.ref a] ∧ SqT K H1 a xs ∧ R (ItE K a) H1
theorem pi_enumT {X : Cx} {e : Expr} {ta : TA} {p pos tpos : Pos} {elts : List Expr} {kk : Nat} (hg : Gl X "enumerate") (hm : X.mg "enumerate" = none) (ha : PA X [e] ta) (hs : starEach [e] X.env = [(false, eval e X.env)] := by rfl) :
    PI X (.Tuple elts kk tpos) (.Call (.Name "enumerate" p) [e] [] pos) (iEnumT X.K ta) := by
  refine ⟨fun pins s σ H R I h => ?_⟩
  refine Call_ (ld_blt I hg hm boot_enumerate (PyProof.Rows.callWith_type1 (thn (ha.run pos pins s σ H _ I h) fun us s1 ⟨vs, H1, I1, r1, q1⟩ => ?_) hs rfl))
  obtain ⟨a, xs, ex, hq, q⟩ := q1
  subst ex
  cases r1 with
  | cons r rr =>
    cases rr
    cases r
    obtain ⟨its, rv, p', hz⟩ := I1.tuple hq
    obtain ⟨ot, hot, _⟩ := id p'
    have hal : a < s1.heap.objs.size := Heap.lt_size hot
    refine call_enum1 (begins_tuple a its.toArray) (show s1.heap.IsTuple a its.toArray from p') fun h' he hit hsz hk => wpAny_pyIter_enum he ?_
    have I2 : Inv X pins σ H1 { s1 with heap := h' } := I1.kept (t' := s1.toks) hk
    refine ⟨s1.heap.objs.size + 1, [s1.heap.objs.size + 1, s1.heap.objs.size], _, _, H1, rfl, I2, turn_enumT a (s1.heap.objs.size + 1) s1.heap.objs.size,
      ⟨⟨.none, he⟩, ⟨_, hit, rfl, rfl⟩, Nat.succ_ne_self _, Nat.ne_of_lt hal, Nat.ne_of_lt (Nat.lt_succ_of_lt hal)⟩, fun b hb => ?_, q⟩
    have hle : s1.heap.objs.size ≤ b := by
      rcases List.mem_cons.mp hb with z | hb
      · rw [z]; exact Nat.le_add_right _ _
      · rw [List.mem_singleton.mp hb]; exact Nat.le_refl _
    exact I1.fpOk hle (I1.hok.fresh hle)
theorem walk_enumT {K : PySem.W.Frag} {a : Addr} {xs : List V} : Walk (ItE K a) xs.length (fun H => SqT K H a xs) (YPair (fun i => some (.int (i : Nat))) (fun i => xs[i]?)) := by
  refine ⟨fun i _ hi q => ⟨xs, xs[i], q, by simp [hi]⟩, fun _ q => ⟨xs, q, Nat.le_refl _⟩, fun i H v H' _ q y => ?_⟩
  obtain ⟨T, x, h1, h2, h3, h4⟩ := y
  exact ⟨T, .int (i : Nat), x, h1, h2, h3, rfl, h4 xs q⟩
theorem walk_zipT {K : PySem.W.Frag} {a b : Addr} {xs ys : List V} {n : Nat} (hn : n = min xs.length ys.length) : Walk (RZ.ItzT K a b) n (fun H => SqT K H a xs ∧ SqT K H b ys) (YPair (fun i => xs[i]?) (fun i => ys[i]?)) := by
  subst hn
  refine ⟨fun i _ hi q => ?_, fun _ q => ⟨xs, ys, q.1, q.2, by omega⟩, fun i H v H' _ q y => ?_⟩
  · have h1 : i < xs.length := by omega
    have h2 : i < ys.length := by omega
    exact ⟨xs, ys, xs[i], ys[i], q.1, q.2, by simp [h1], by simp [h2]⟩
  · obtain ⟨T, x, z, h1, h2, h3, h4, h5⟩ := y
    exact ⟨T, x, z, h1, h2, h3, h4 xs q.1, h5 ys q.2⟩
end PR
end
section
set_option Elab.async false
set_option linter.all false
set_option maxRecDepth 100000
set_option maxHeartbeats 4000000
/-! Readings over data that stay: Rp (a value is that data), TEx (tuples stay), Ed, EdL, EdI. -/
namespace PR
open PySem PySem.Spec PyProof.Rows L2 Evl

/-- all tuples stay, and all that is locked -/
def TEx (H H' : Hp) : Prop := (∀ a xs, Rd H a (.tup xs) → Rd H' a (.tup xs)) ∧ ∀ a o u, H a = some (.frz o u) → H' a = some (.frz o u)
theorem TEx.refl (H : Hp) : TEx H H := ⟨fun _ _ h => h, fun _ _ _ h => h⟩
theorem TEx.trans {H H1 H2 : Hp} (a : TEx H H1) (b : TEx H1 H2) : TEx H H2 := ⟨fun x o h => b.1 x o (a.1 x o h), fun x o u h => b.2 x o u (a.2 x o u h)⟩
theorem exT {H H' : Hp} (e : Ex H H') : TEx H H' := ⟨fun a xs h => ex_rd e h, fun a o u h => e a _ h⟩
theorem TEx.mut {H : Hp} {p : Addr} {o o' : HO} (h : H p = some o) (m : Mut (some o)) : TEx H (upd H p o') := by
  have hf : ∀ a w u, H a = some (.frz w u) → a ≠ p := by
    rintro a w u r rfl
    rw [h] at r; cases r; exact m
  refine ⟨fun a xs r => ?_, fun a w u r => by rw [upd_ne (hf a w u r)]; exact r⟩
  have hne : a ≠ p := by
    rcases r with r | ⟨u, r⟩
    · rintro rfl
      rw [h] at r; cases r; exact m
    · exact hf a _ _ r
  unfold Rd
  rw [upd_ne hne]
  exact r
theorem TEx.lst {H : Hp} {p : Addr} {xs : List V} {o' : HO} (h : H p = some (.lst xs)) : TEx H (upd H p o') := TEx.mut h trivial
theorem TEx.dk {H : Hp} {p : Addr} {xs : List (Key × V)} {o' : HO} (h : H p = some (.dK xs)) : TEx H (upd H p o') := TEx.mut h trivial
theorem TEx.dt {H : Hp} {p : Addr} {xs : List (List Key × V)} {o' : HO} (h : H p = some (.dT xs)) : TEx H (upd H p o') := TEx.mut h trivial
theorem TEx.sq {K : PySem.W.Frag} {H H' : Hp} {a : Addr} {xs : List V} (e : TEx H H') (h : SqT K H a xs) : SqT K H' a xs := h.elim (fun r => .inl (e.1 a xs r)) .inr
/-- all but the thing at p stays -/
theorem Ex.upd_other {H : Hp} {p q : Addr} {o u : HO} (h : H q = some o) (hne : q ≠ p) : upd H p u q = some o := by rw [upd_ne hne]; exact h

/-! ### a value is that data -/
mutual
inductive Rp (K : PySem.W.Frag) (H : Hp) : V → PyData → Prop
  | non : Rp K H .non .none
  | bl (b : Bool) : Rp K H (.bl b) (.bool b)
  | int (i : Int) : Rp K H (.int i) (.int i)
  | str (x : Str) : Rp K H (.str x) (.str x)
  | tup {a : Addr} {xs : List V} {ds : List PyData} : SqT K H a xs → Rps K H xs ds → Rp K H (.ref a) (.tuple ds)
inductive Rps (K : PySem.W.Frag) (H : Hp) : List V → List PyData → Prop
  | nil : Rps K H [] []
  | cons {v : V} {vs : List V} {d : PyData} {ds : List PyData} : Rp K H v d → Rps K H vs ds → Rps K H (v :: vs) (d :: ds)
end
section
variable {K : PySem.W.Frag} {H H' : Hp}
mutual
theorem Rp.mono (e : TEx H H') : ∀ (d : PyData) (v : V), Rp K H v d → Rp K H' v d
  | .none, _, h => by cases h; exact .non
  | .bool b, _, h => by cases h; exact .bl b
  | .int i, _, h => by cases h; exact .int i
  | .str x, _, h => by cases h; exact .str x
  | .tuple ds, _, h => by
    cases h with
    | tup hs ha => exact .tup (e.sq hs) (Rps.mono e ds _ ha)
  | .list _, _, h => by cases h
  | .dict _, _, h => by cases h
theorem Rps.mono (e : TEx H H') : ∀ (ds : List PyData) (vs : List V), Rps K H vs ds → Rps K H' vs ds
  | [], _, h => by cases h; exact .nil
  | d :: ds, _, h => by
    cases h with
    | cons h1 h2 => exact .cons (Rp.mono e d _ h1) (Rps.mono e ds _ h2)
end
theorem Rp.up {v : V} {d : PyData} (h : Rp K H v d) (e : TEx H H') : Rp K H' v d := Rp.mono e d v h
theorem Rps.up {vs : List V} {ds : List PyData} (h : Rps K H vs ds) (e : TEx H H') : Rps K H' vs ds := Rps.mono e ds vs h
theorem Rp.ex {v : V} {d : PyData} (h : Rp K H v d) (e : Ex H H') : Rp K H' v d := h.up (exT e)
theorem Rps.ex {vs : List V} {ds : List PyData} (h : Rps K H vs ds) (e : Ex H H') : Rps K H' vs ds := h.up (exT e)
mutual
theorem Rp.dp : ∀ (d : PyData) (v : V), Rp K H v d → Dp K H v d
  | .none, _, h => by cases h; exact .non
  | .bool b, _, h => by cases h; exact .bl b
  | .int i, _, h => by cases h; exact .int i
  | .str x, _, h => by cases h; exact .str x
  | .tuple ds, _, h => by
    cases h with
    | tup hs ha => exact .tup hs (Rps.dps ds _ ha)
  | .list _, _, h => by cases h
  | .dict _, _, h => by cases h
theorem Rps.dps : ∀ (ds : List PyData) (vs : List V), Rps K H vs ds → DpAll K H vs ds
  | [], _, h => by cases h; exact .nil
  | d :: ds, _, h => by
    cases h with
    | cons h1 h2 => exact .cons (Rp.dp d _ h1) (Rps.dps ds _ h2)
end
theorem rp_non {v : V} (h : Rp K H v .none) : v = .non := by cases h; rfl
theorem rp_bl {v : V} {b : Bool} (h : Rp K H v (.bool b)) : v = .bl b := by cases h; rfl
theorem rp_int {v : V} {i : Int} (h : Rp K H v (.int i)) : v = .int i := by cases h; rfl
theorem rp_str {v : V} {x : Str} (h : Rp K H v (.str x)) : v = .str x := by cases h; rfl
theorem rp_tup {v : V} {ds : List PyData} (h : Rp K H v (.tuple ds)) : ∃ a xs, v = .ref a ∧ SqT K H a xs ∧ Rps K H xs ds := by
  cases h with
  | tup hs ha => exact ⟨_, _, rfl, hs, ha⟩
theorem Rps.len : ∀ {vs : List V} {ds : List PyData}, Rps K H vs ds → vs.length = ds.length
  | _, _, .nil => rfl
  | _, _, .cons _ t => by rw [List.length_cons, List.length_cons, t.len]
theorem Rps.at : ∀ {vs : List V} {ds : List PyData} {i : Nat} {d : PyData}, Rps K H vs ds → ds[i]? = some d → ∃ v, vs[i]? = some v ∧ Rp K H v d
  | _, _, _, _, .nil, e => by simp at e
  | _, _, 0, _, .cons r _, e => by
    simp at e
    subst e
    exact ⟨_, rfl, r⟩
  | _, _, i + 1, _, .cons _ t, e => by
    obtain ⟨v, h1, h2⟩ := t.at (i := i) (by simpa using e)
    exact ⟨v, by simpa using h1, h2⟩
theorem Rps.to : ∀ {vs : List V} {ds : List PyData} {i : Nat} {v : V}, Rps K H vs ds → vs[i]? = some v → ∃ d, ds[i]? = some d ∧ Rp K H v d
  | _, _, _, _, .nil, e => by simp at e
  | _, _, 0, _, .cons r _, e => by
    simp at e
    subst e
    exact ⟨_, rfl, r⟩
  | _, _, i + 1, _, .cons _ t, e => by
    obtain ⟨d, h1, h2⟩ := t.to (i := i) (by simpa using e)
    exact ⟨d, by simpa using h1, h2⟩
theorem Rps.app : ∀ {vs ws : List V} {ds es : List PyData}, Rps K H vs ds → Rps K H ws es → Rps K H (vs ++ ws) (ds ++ es)
  | _, _, _, _, .nil, q => q
  | _, _, _, _, .cons r t, q => .cons r (t.app q)
theorem Rps.snoc {vs : List V} {v : V} {ds : List PyData} {d : PyData} (h : Rps K H vs ds) (r : Rp K H v d) : Rps K H (vs ++ [v]) (ds ++ [d]) := h.app (.cons r .nil)
theorem Rps.tk : ∀ {vs : List V} {ds : List PyData} (n : Nat), Rps K H vs ds → Rps K H (vs.take n) (ds.take n)
  | _, _, 0, _ => .nil
  | _, _, _ + 1, .nil => .nil
  | _, _, n + 1, .cons r t => .cons r (t.tk n)
theorem Rps.dr : ∀ {vs : List V} {ds : List PyData} (n : Nat), Rps K H vs ds → Rps K H (vs.drop n) (ds.drop n)
  | _, _, 0, h => h
  | _, _, _ + 1, .nil => .nil
  | _, _, n + 1, .cons _ t => t.dr n
theorem Rps.rev : ∀ {vs : List V} {ds : List PyData}, Rps K H vs ds → Rps K H vs.reverse ds.reverse
  | _, _, .nil => .nil
  | _, _, .cons r t => by
    rw [List.reverse_cons, List.reverse_cons]
    exact t.rev.snoc r
theorem Rps.ints : ∀ {vs : List V} {ns : List Int}, Rps K H vs (ns.map PyData.int) → vs = ns.map V.int
  | _, [], h => by cases h; rfl
  | _, n :: ns, h => by
    cases h with
    | cons r t =>
      cases r
      rw [t.ints]
      rfl
theorem Rps.strs : ∀ {vs : List V} {ns : List Str}, Rps K H vs (ns.map PyData.str) → vs = ns.map V.str
  | _, [], h => by cases h; rfl
  | _, n :: ns, h => by
    cases h with
    | cons r t =>
      cases r
      rw [t.strs]
      rfl
theorem Rps.bls : ∀ {vs : List V} {ns : List Bool}, Rps K H vs (ns.map PyData.bool) → vs = ns.map V.bl
  | _, [], h => by cases h; rfl
  | _, n :: ns, h => by
    cases h with
    | cons r t =>
      cases r
      rw [t.bls]
      rfl
theorem rps_ints : ∀ (ns : List Int), Rps K H (ns.map V.int) (ns.map PyData.int)
  | [] => .nil
  | n :: ns => .cons (.int n) (rps_ints ns)
theorem rps_strs : ∀ (ns : List Str), Rps K H (ns.map V.str) (ns.map PyData.str)
  | [] => .nil
  | n :: ns => .cons (.str n) (rps_strs ns)
theorem rps_bls : ∀ (ns : List Bool), Rps K H (ns.map V.bl) (ns.map PyData.bool)
  | [] => .nil
  | n :: ns => .cons (.bl n) (rps_bls ns)
/-- a tuple of ints, of texts -/
theorem rp_tints {v : V} {ns : List Int} (h : Rp K H v (.tuple (ns.map PyData.int))) : ∃ a, v = .ref a ∧ SqT K H a (ns.map V.int) := by
  obtain ⟨a, xs, e, q, r⟩ := rp_tup h
  rw [r.ints] at q
  exact ⟨a, e, q⟩
theorem rp_tstrs {v : V} {ns : List Str} (h : Rp K H v (.tuple (ns.map PyData.str))) : ∃ a, v = .ref a ∧ SqT K H a (ns.map V.str) := by
  obtain ⟨a, xs, e, q, r⟩ := rp_tup h
  rw [r.strs] at q
  exact ⟨a, e, q⟩
end

/-! ### readings -/
/-- gives that data -/
def Ed (K : PySem.W.Frag) (te : TE) (σ : L2.St) (H : Hp) (d : PyData) : Prop := ∀ H1, Ex H H1 → ∀ Q : VK, (∀ v H2, Ex H1 H2 → Rp K H2 v d → Q v H2) → te σ H1 Q
/-- gives a new list of that data -/
def EdL (K : PySem.W.Frag) (te : TE) (σ : L2.St) (H : Hp) (ds : List PyData) : Prop := ∀ H1, Ex H H1 → ∀ Q : VK, (∀ p vs H2, H1 p = none → Ex H1 H2 → H2 p = some (.lst vs) → Rps K H2 vs ds → Q (.ref p) H2) → te σ H1 Q
/-- gives a new dict -/
def EvK (te : TE) (σ : L2.St) (H : Hp) (kvs : List (Key × V)) : Prop := ∀ H1, Ex H H1 → ∀ Q : VK, (∀ p H2, H1 p = none → Ex H1 H2 → H2 p = some (.dK kvs) → Q (.ref p) H2) → te σ H1 Q
/-- arguments of that data -/
def Eds (K : PySem.W.Frag) (ta : TA) (σ : L2.St) (H : Hp) (ds : List PyData) : Prop := ∀ H1, Ex H H1 → ∀ Q : List V → Hp → Prop, (∀ vs H2, Ex H1 H2 → Rps K H2 vs ds → Q vs H2) → ta σ H1 Q
section
variable {K : PySem.W.Frag} {σ : L2.St} {H H' : Hp} {ta tb te tx : TE} {t u : TT} {x y z v : V} {d d2 : PyData} {ds es : List PyData} {r : R2} {tr : TA}
theorem Ed.mono (e : Ex H H') (h : Ed K te σ H d) : Ed K te σ H' d := fun H1 a Q q => h H1 (e.trans a) Q q
theorem EdL.mono (e : Ex H H') (h : EdL K te σ H ds) : EdL K te σ H' ds := fun H1 a Q q => h H1 (e.trans a) Q q
theorem ed_var {i : Nat} (h : σ[i]? = some (some v)) (hr : Rp K H v d) : Ed K (tVar i) σ H d := fun H1 e Q q => ⟨v, h, q v H1 (Ex.refl H1) (hr.ex e)⟩
theorem ed_int {i : Int} (h : Ev te σ H (.int i)) : Ed K te σ H (.int i) := fun H1 e Q q => h H1 e Q fun H2 e2 => q _ H2 e2 (.int i)
theorem ed_bl {i : Bool} (h : Ev te σ H (.bl i)) : Ed K te σ H (.bool i) := fun H1 e Q q => h H1 e Q fun H2 e2 => q _ H2 e2 (.bl i)
theorem ed_str {i : Str} (h : Ev te σ H (.str i)) : Ed K te σ H (.str i) := fun H1 e Q q => h H1 e Q fun H2 e2 => q _ H2 e2 (.str i)
theorem ed_non (h : Ev te σ H .non) : Ed K te σ H .none := fun H1 e Q q => h H1 e Q fun H2 e2 => q _ H2 e2 .non
theorem ev_int {i : Int} (h : Ed K te σ H (.int i)) : Ev te σ H (.int i) := fun H1 e Q q => h H1 e Q fun v H2 e2 r => by
  cases r
  exact q H2 e2
theorem ev_bl {i : Bool} (h : Ed K te σ H (.bool i)) : Ev te σ H (.bl i) := fun H1 e Q q => h H1 e Q fun v H2 e2 r => by
  cases r
  exact q H2 e2
theorem ev_str {i : Str} (h : Ed K te σ H (.str i)) : Ev te σ H (.str i) := fun H1 e Q q => h H1 e Q fun v H2 e2 r => by
  cases r
  exact q H2 e2
theorem ev_non (h : Ed K te σ H .none) : Ev te σ H .non := fun H1 e Q q => h H1 e Q fun v H2 e2 r => by
  cases r
  exact q H2 e2
theorem ed_is (h : Ed K te σ H d) (e : d = d2) : Ed K te σ H d2 := e ▸ h
theorem edL_is (h : EdL K te σ H ds) (e : ds = es) : EdL K te σ H es := e ▸ h
theorem eds_nil : Eds K tNil σ H [] := fun H1 _ Q q => q [] H1 (Ex.refl H1) .nil
theorem eds_cons (h1 : Ed K te σ H d) (h2 : Eds K tr σ H ds) : Eds K (tCons te tr) σ H (d :: ds) := fun H1 e Q q =>
  h1 H1 e _ fun v H2 e2 r2 => h2 H2 (e.trans e2) _ fun vs H3 e3 r3 => q _ H3 (e2.trans e3) (.cons (r2.ex e3) r3)
theorem eva_nil : EvA tNil σ H [] := fun H1 _ Q q => q H1 (Ex.refl H1)
theorem eva_cons {vs : List V} (h1 : Ev te σ H v) (h2 : EvA tr σ H vs) : EvA (tCons te tr) σ H (v :: vs) := fun H1 e Q q =>
  h1 H1 e _ fun H2 e2 => h2 H2 (e.trans e2) _ fun H3 e3 => q H3 (e2.trans e3)
/-- a new tuple -/
theorem ed_tup (h : Eds K tr σ H ds) (hz : ds.length ≤ 100000) : Ed K (tTup tr) σ H (.tuple ds) := fun H1 e Q q =>
  h H1 e _ fun vs H2 e2 r => ⟨sz_of (by rw [r.len]; exact hz), fun p hp => q _ _ (e2.trans (Ex.new hp)) (.tup (SqT.of upd_same) (r.ex (Ex.new hp)))⟩
/-- a new list -/
theorem edL_lst (h : Eds K tr σ H ds) (hz : ds.length ≤ 100000) : EdL K (tLst tr) σ H ds := fun H1 e Q q =>
  h H1 e _ fun vs H2 e2 r => ⟨sz_of (by rw [r.len]; exact hz), fun p hp => q p vs _ (fresh_back e2 hp) (e2.trans (Ex.new hp)) upd_same (r.ex (Ex.new hp))⟩
theorem edL_nil : EdL K (tLst tNil) σ H [] := edL_lst eds_nil (Nat.zero_le _)
/-- t[i] -/
theorem ed_ixT {i : Int} (h1 : Ed K ta σ H (.tuple ds)) (h2 : Ev tb σ H (.int i)) (ha : atI ds i = some d) : Ed K (tOp (rIxT K) ta tb) σ H d := fun H1 e Q q =>
  h1 H1 e _ fun v H2 e2 r2 => h2 H2 (e.trans e2) _ fun H3 e3 => by
    obtain ⟨a, xs, rfl, hs, rs⟩ := rp_tup (r2.ex e3)
    unfold atI at ha
    cases hi : ixN ds.length i with
    | none => rw [hi] at ha; cases ha
    | some j =>
      rw [hi] at ha
      obtain ⟨w, hw, rw'⟩ := rs.at ha
      refine ⟨a, xs, i, w, rfl, rfl, hs, ?_, q w H3 (e2.trans e3) rw'⟩
      unfold atI
      rw [rs.len, hi]
      exact hw
/-- t[i], i not below 0 -/
theorem ed_ixTn {i : Nat} (h1 : Ed K ta σ H (.tuple ds)) (h2 : Ev tb σ H (.int (i : Int))) (ha : ds[i]? = some d) : Ed K (tOp (rIxT K) ta tb) σ H d := ed_ixT h1 h2 (atI_nat ha)
/-- xs[i] of a list that stands -/
theorem ed_ixL {i : Int} {p : Addr} {vs : List V} (h1 : Ev ta σ H (.ref p)) (hp : SqL K H p vs) (hr : Rps K H vs ds) (h2 : Ev tb σ H (.int i)) (ha : atI ds i = some d) : Ed K (tOp (rIxL K) ta tb) σ H d := fun H1 e Q q =>
  h1 H1 e _ fun H2 e2 => h2 H2 (e.trans e2) _ fun H3 e3 => by
    unfold atI at ha
    cases hi : ixN ds.length i with
    | none => rw [hi] at ha; cases ha
    | some j =>
      rw [hi] at ha
      obtain ⟨w, hw, rw'⟩ := hr.at ha
      refine ⟨p, vs, i, w, rfl, rfl, ex_l ((e.trans e2).trans e3) hp, ?_, q w H3 (e2.trans e3) (rw'.ex ((e.trans e2).trans e3))⟩
      unfold atI
      rw [hr.len, hi]
      exact hw
/-- len(t) -/
theorem ev_lenT (h : Ed K ta σ H (.tuple ds)) : Ev (tCB (rLenS K) (tCons ta tNil)) σ H (.int (ds.length : Int)) := fun H1 e Q q =>
  h H1 e _ fun v H2 e2 r => by
    obtain ⟨a, xs, rfl, hs, rs⟩ := rp_tup r
    refine ⟨a, xs, rfl, .inr hs, ?_⟩
    rw [rs.len]
    exact q H2 e2
theorem ev_lenL (h : EdL K ta σ H ds) : Ev (tCB (rLenS K) (tCons ta tNil)) σ H (.int (ds.length : Int)) := fun H1 e Q q =>
  h H1 e _ fun p vs H2 _ e2 h2 r => ⟨p, vs, rfl, .inl (sq_of h2), by rw [r.len]; exact q H2 e2⟩
/-- tuple(list) -/
def rTupS (K : PySem.W.Frag) : List V → Hp → VK → Prop := fun xs H Q => ∃ p ys, xs = [.ref p] ∧ ((SqL K H p ys ∧ ∀ l, H l = none → Q (.ref l) (upd H l (.tup ys))) ∨ (SqT K H p ys ∧ Q (.ref p) H))
theorem ed_tupL (h : EdL K ta σ H ds) : Ed K (tCB (rTupS K) (tCons ta tNil)) σ H (.tuple ds) := fun H1 e Q q =>
  h H1 e _ fun p vs H2 _ e2 h2 r => ⟨p, vs, rfl, .inl ⟨sq_of h2, fun l hl => q _ _ (e2.trans (Ex.new hl)) (.tup (SqT.of upd_same) (r.ex (Ex.new hl)))⟩⟩
/-- tuple(xs) of a list that stands -/
theorem ed_tupLs {p : Addr} {vs : List V} (h : Ev ta σ H (.ref p)) (hp : SqL K H p vs) (hr : Rps K H vs ds) : Ed K (tCB (rTupS K) (tCons ta tNil)) σ H (.tuple ds) := fun H1 e Q q =>
  h H1 e _ fun H2 e2 => ⟨p, vs, rfl, .inl ⟨ex_l (e.trans e2) hp, fun l hl => q _ _ (e2.trans (Ex.new hl)) (.tup (SqT.of upd_same) ((hr.ex (e.trans e2)).ex (Ex.new hl)))⟩⟩
/-- tuple(t) -/
theorem ed_tupT (h : Ed K ta σ H (.tuple ds)) : Ed K (tCB (rTupS K) (tCons ta tNil)) σ H (.tuple ds) := fun H1 e Q q =>
  h H1 e _ fun v H2 e2 r => by
    obtain ⟨a, xs, rfl, hs, rs⟩ := rp_tup r
    exact ⟨a, xs, rfl, .inr ⟨hs, q _ H2 e2 r⟩⟩
/-- list(t), list(xs) -/
theorem edL_listT (h : Ed K ta σ H (.tuple ds)) : EdL K (tCB (rListS K) (tCons ta tNil)) σ H ds := fun H1 e Q q =>
  h H1 e _ fun v H2 e2 r => by
    obtain ⟨a, xs, rfl, hs, rs⟩ := rp_tup r
    exact ⟨a, xs, rfl, .inr hs, fun l hl => q l xs _ (fresh_back e2 hl) (e2.trans (Ex.new hl)) upd_same (rs.ex (Ex.new hl))⟩
theorem edL_listLs {p : Addr} {vs : List V} (h : Ev ta σ H (.ref p)) (hp : SqL K H p vs) (hr : Rps K H vs ds) : EdL K (tCB (rListS K) (tCons ta tNil)) σ H ds := fun H1 e Q q =>
  h H1 e _ fun H2 e2 => ⟨p, vs, rfl, .inl (ex_l (e.trans e2) hp), fun l hl => q l vs _ (fresh_back e2 hl) (e2.trans (Ex.new hl)) upd_same ((hr.ex (e.trans e2)).ex (Ex.new hl))⟩
theorem edL_listL (h : EdL K ta σ H ds) : EdL K (tCB (rListS K) (tCons ta tNil)) σ H ds := fun H1 e Q q =>
  h H1 e _ fun p vs H2 hp e2 h2 r => ⟨p, vs, rfl, .inl (sq_of h2), fun l hl => q l vs _ (fresh_back e2 hl) (e2.trans (Ex.new hl)) upd_same (r.ex (Ex.new hl))⟩
/-- == and != of data -/
theorem ev_eqD {b : Bool} (h1 : Ed K ta σ H d) (h2 : Ed K tb σ H d2) (s1 : SeqAt.shaped d = true) (s2 : SeqAt.shaped d2 = true) (e : PyData.eqv d d2 = b) : Ev (tOp (rEqD K) ta tb) σ H (.bl b) := fun H1 e0 Q q =>
  h1 H1 e0 _ fun v H2 e2 r2 => h2 H2 (e0.trans e2) _ fun w H3 e3 r3 => ⟨d, d2, (r2.ex e3).dp, r3.dp, s1, s2, by rw [e]; exact q H3 (e2.trans e3)⟩
theorem ev_neD {b : Bool} (h1 : Ed K ta σ H d) (h2 : Ed K tb σ H d2) (s1 : SeqAt.shaped d = true) (s2 : SeqAt.shaped d2 = true) (e : PyData.eqv d d2 = b) : Ev (tOp (rNeD K) ta tb) σ H (.bl !b) := fun H1 e0 Q q =>
  h1 H1 e0 _ fun v H2 e2 r2 => h2 H2 (e0.trans e2) _ fun w H3 e3 r3 => ⟨d, d2, (r2.ex e3).dp, r3.dp, s1, s2, by rw [e]; exact q H3 (e2.trans e3)⟩
/-- of new lists of data -/
theorem dp_list {p : Addr} {vs : List V} (h : SqL K H p vs) (r : Rps K H vs ds) : Dp K H (.ref p) (.list ds) := .lst h r.dps
theorem ev_neLL {b : Bool} (h1 : EdL K ta σ H ds) (h2 : EdL K tb σ H es) (s1 : SeqAt.shaped (.list ds) = true) (s2 : SeqAt.shaped (.list es) = true) (e : PyData.eqv (.list ds) (.list es) = b) : Ev (tOp (rNeD K) ta tb) σ H (.bl !b) := fun H1 e0 Q q =>
  h1 H1 e0 _ fun p vs H2 _ e2 h2' r2 => h2 H2 (e0.trans e2) _ fun p' vs' H3 _ e3 h3 r3 => ⟨_, _, dp_list (sq_of (e3 _ _ h2')) (r2.ex e3), dp_list (sq_of h3) r3, s1, s2, by rw [e]; exact q H3 (e2.trans e3)⟩
/-- a if t else b -/
theorem ed_if {b : Bool} (h : EvT t σ H b) (h1 : b = true → Ed K ta σ H d) (h2 : b = false → Ed K tb σ H d) : Ed K (tIf t ta tb) σ H d := fun H1 e Q q => h H1 e _ fun H2 e2 => by
  cases b with
  | true => exact h1 rfl H2 (e.trans e2) Q fun v H3 e3 => q v H3 (e2.trans e3)
  | false => exact h2 rfl H2 (e.trans e2) Q fun v H3 e3 => q v H3 (e2.trans e3)
theorem ev_if {b : Bool} (h : EvT t σ H b) (h1 : b = true → Ev ta σ H v) (h2 : b = false → Ev tb σ H v) : Ev (tIf t ta tb) σ H v := fun H1 e Q q => h H1 e _ fun H2 e2 => by
  cases b with
  | true => exact h1 rfl H2 (e.trans e2) Q fun H3 e3 => q H3 (e2.trans e3)
  | false => exact h2 rfl H2 (e.trans e2) Q fun H3 e3 => q H3 (e2.trans e3)
/-- calls of own defs -/
def spD (K : PySem.W.Frag) (f : List PyData → Option PyData) : Sp := fun vs H Q _ => ∃ ds d, Rps K H vs ds ∧ f ds = some d ∧ ∀ v H', Ex H H' → Rp K H' v d → Q v H'
def spL (K : PySem.W.Frag) (f : List PyData → Option (List PyData)) : Sp := fun vs H Q _ => ∃ ds es, Rps K H vs ds ∧ f ds = some es ∧ ∀ p ws H', H p = none → Ex H H' → H' p = some (.lst ws) → Rps K H' ws es → Q (.ref p) H'
theorem ed_call {f : List PyData → Option PyData} (h : Eds K tr σ H ds) (e : f ds = some d) : Ed K (tCall (spD K f) [] E0 tr) σ H d := fun H1 e1 Q q =>
  h H1 e1 _ fun vs H2 e2 r => ⟨ds, d, by rw [List.append_nil]; exact r, e, fun v H3 e3 r3 => q v H3 (e2.trans e3) r3⟩
theorem edL_call {f : List PyData → Option (List PyData)} (h : Eds K tr σ H ds) (e : f ds = some es) : EdL K (tCall (spL K f) [] E0 tr) σ H es := fun H1 e1 Q q =>
  h H1 e1 _ fun vs H2 e2 r => ⟨ds, es, by rw [List.append_nil]; exact r, e, fun p ws H3 hp e3 h3 r3 => q p ws H3 (fresh_back e2 hp) (e2.trans e3) h3 r3⟩
/-- all, any, sum of a new list -/
theorem ev_all {bs : List Bool} {b : Bool} (h : EdL K ta σ H (bs.map PyData.bool)) (e : bs.all id = b) : Ev (tCB (rAll K) (tCons ta tNil)) σ H (.bl b) := fun H1 e1 Q q =>
  h H1 e1 _ fun p vs H2 _ e2 h2 r => ⟨p, bs, rfl, by rw [← r.bls]; exact sq_of h2, by rw [e]; exact q H2 e2⟩
theorem ev_any {bs : List Bool} {b : Bool} (h : EdL K ta σ H (bs.map PyData.bool)) (e : bs.any id = b) : Ev (tCB (rAny K) (tCons ta tNil)) σ H (.bl b) := fun H1 e1 Q q =>
  h H1 e1 _ fun p vs H2 _ e2 h2 r => ⟨p, bs, rfl, by rw [← r.bls]; exact sq_of h2, by rw [e]; exact q H2 e2⟩
theorem ev_sum {ns : List Int} {n : Int} (h : EdL K ta σ H (ns.map PyData.int)) (e : ns.sum = n) : Ev (tCB (rSum K) (tCons ta tNil)) σ H (.int n) := fun H1 e1 Q q =>
  h H1 e1 _ fun p vs H2 _ e2 h2 r => ⟨p, ns, rfl, by rw [← r.ints]; exact sq_of h2, by rw [e]; exact q H2 e2⟩
/-- int(b) -/
theorem ev_intB {b : Bool} (h : Ev ta σ H (.bl b)) : Ev (tCB (fun xs H Q => (∃ i, xs = [.int i] ∧ Q (.int i) H) ∨ ∃ k, xs = [.bl k] ∧ Q (.int (if k then 1 else 0)) H) (tCons ta tNil)) σ H (.int (if b then 1 else 0)) := fun H1 e1 Q q =>
  h H1 e1 _ fun H2 e2 => .inr ⟨b, rfl, q H2 e2⟩
theorem ev_intI {b : Int} (h : Ev ta σ H (.int b)) : Ev (tCB (fun xs H Q => (∃ i, xs = [.int i] ∧ Q (.int i) H) ∨ ∃ k, xs = [.bl k] ∧ Q (.int (if k then 1 else 0)) H) (tCons ta tNil)) σ H (.int b) := fun H1 e1 Q q =>
  h H1 e1 _ fun H2 e2 => .inl ⟨b, rfl, q H2 e2⟩
/-- a < b < c -/
theorem ev_chain {C C' : Int → Int → Bool} {i j k : Int} {b : Bool} (h1 : Ev ta σ H (.int i)) (h2 : Ev tb σ H (.int j)) (h3 : Ev tx σ H (.int k)) (e : (C i j && C' j k) = b) :
    Ev (tChain (rI0 fun i j => .bl (C i j)) (rI0 fun i j => .bl (C' i j)) ta tb tx) σ H (.bl b) := fun H1 e1 Q q =>
  h1 H1 e1 _ fun H2 e2 => h2 H2 (e1.trans e2) _ fun H3 e3 => ⟨i, j, rfl, rfl, C i j, rfl, by
    cases hc : C i j with
    | true =>
      rw [if_pos rfl]
      refine h3 H3 ((e1.trans e2).trans e3) _ fun H4 e4 => ⟨j, k, rfl, rfl, ?_⟩
      rw [hc, Bool.true_and] at e
      show Q (.bl (C' j k)) H4
      rw [e]
      exact q H4 ((e2.trans e3).trans e4)
    | false =>
      rw [if_neg Bool.false_ne_true]
      rw [hc, Bool.false_and] at e
      rw [e]
      exact q H3 (e2.trans e3)⟩
end
end PR
end
section
set_option Elab.async false
set_option linter.all false
set_option maxRecDepth 100000
set_option maxHeartbeats 4000000
/-! Readings over data, second part: slices, statements, what is walked, comprehensions. -/
namespace PR
open PySem PySem.Spec PyProof.Rows L2 Evl
/-- xs[lo:hi] -/
def cutL {α : Type} (xs : List α) (lo hi : Option Int) : List α := (xs.drop (HT.sIx xs.length 0 lo)).take (HT.sIx xs.length xs.length hi - HT.sIx xs.length 0 lo)
theorem cutL_to {α : Type} (xs : List α) (k : Nat) : cutL xs none (some (k : Int)) = xs.take k := by
  unfold cutL
  rw [HT.sIx_none, HT.sIx_nat, List.drop_zero, Nat.sub_zero]
  by_cases h : k ≤ xs.length
  · rw [Nat.min_eq_left h]
  · rw [Nat.min_eq_right (by omega), List.take_of_length_le (Nat.le_refl _), List.take_of_length_le (by omega)]
theorem cutL_from {α : Type} (xs : List α) (k : Nat) : cutL xs (some (k : Int)) none = xs.drop k := by
  unfold cutL
  rw [HT.sIx_none, HT.sIx_nat]
  by_cases h : k ≤ xs.length
  · rw [Nat.min_eq_left h, List.take_of_length_le (by rw [List.length_drop]; exact Nat.le_refl _)]
  · rw [Nat.min_eq_right (by omega), List.drop_of_length_le (Nat.le_refl _), List.drop_of_length_le (by omega), List.take_nil]
theorem cutL_mid {α : Type} (xs : List α) (j k : Nat) : cutL xs (some (j : Int)) (some (k : Int)) = (xs.take k).drop j := by
  unfold cutL
  rw [HT.sIx_nat, HT.sIx_nat, List.drop_take]
  by_cases hj : j ≤ xs.length
  · rw [Nat.min_eq_left hj]
    by_cases hk : k ≤ xs.length
    · rw [Nat.min_eq_left hk]
    · rw [Nat.min_eq_right (by omega), List.take_of_length_le (by rw [List.length_drop]; exact Nat.le_refl _), List.take_of_length_le (by rw [List.length_drop]; omega)]
  · have e1 : xs.drop (min j xs.length) = [] := List.drop_of_length_le (by omega)
    have e2 : xs.drop j = [] := List.drop_of_length_le (by omega)
    rw [e1, e2, List.take_nil, List.take_nil]
theorem sIx_m1 (n d : Nat) : HT.sIx n d (some (-1)) = n - 1 := by
  show (if (-1 : Int) < 0 then ((-1 : Int) + (n : Int)).toNat else min (-1 : Int).toNat n) = n - 1
  rw [if_pos (by decide)]
  omega
theorem cutL_init {α : Type} (xs : List α) : cutL xs none (some (-1)) = xs.dropLast := by
  unfold cutL
  rw [HT.sIx_none, List.drop_zero, Nat.sub_zero, List.dropLast_eq_take, sIx_m1]
section
variable {K : PySem.W.Frag} {H H' : Hp}
theorem Rps.cut {vs : List V} {ds : List PyData} (lo hi : Option Int) (h : Rps K H vs ds) : Rps K H (cutV vs lo hi) (cutL ds lo hi) := by
  have e := h.len
  unfold cutV cutL
  rw [e]
  exact (h.dr _).tk _
end
section
variable {K : PySem.W.Frag} {σ : L2.St} {H H' : Hp} {ta tb te tx : TE} {t u : TT} {x y z v : V} {d d2 : PyData} {ds es : List PyData} {r : R2} {tr : TA} {tl th : TO} {lo hi : Option Int}
theorem ed_sl (h : Ed K te σ H (.tuple ds)) (h1 : EvO tl σ H lo) (h2 : EvO th σ H hi) : Ed K (tSl (rSlA K) te tl th) σ H (.tuple (cutL ds lo hi)) := fun H1 e Q q =>
  h H1 e _ fun v H2 e2 r2 => h1 H2 (e.trans e2) _ fun H3 e3 => h2 H3 ((e.trans e2).trans e3) _ fun H4 e4 => by
    have r4 := (r2.ex e3).ex e4
    obtain ⟨a, xs, rfl, hs, rs⟩ := rp_tup r4
    have el := rs.len
    refine ⟨a, xs, rfl, hs, fun hw => ?_, fun _ p hp => q _ _ (((e2.trans e3).trans e4).trans (Ex.new hp)) (.tup (SqT.of upd_same) ((rs.cut lo hi).ex (Ex.new hp)))⟩
    have ec : cutL ds lo hi = ds := by
      unfold cutL
      rw [← el, hw.1, hw.2, el, List.drop_zero, Nat.sub_zero, List.take_of_length_le (Nat.le_refl _)]
    rw [ec] at q
    exact q _ H4 ((e2.trans e3).trans e4) r4
theorem edL_sl {p : Addr} {vs : List V} (h : Ev te σ H (.ref p)) (hp : SqL K H p vs) (hr : Rps K H vs ds) (h1 : EvO tl σ H lo) (h2 : EvO th σ H hi) : EdL K (tSl (rSlL K) te tl th) σ H (cutL ds lo hi) := fun H1 e Q q =>
  h H1 e _ fun H2 e2 => h1 H2 (e.trans e2) _ fun H3 e3 => h2 H3 ((e.trans e2).trans e3) _ fun H4 e4 =>
    ⟨p, vs, rfl, ex_l (((e.trans e2).trans e3).trans e4) hp, fun l hl => q l _ _ (fresh_back ((e2.trans e3).trans e4) hl) (((e2.trans e3).trans e4).trans (Ex.new hl)) upd_same
      (((hr.ex (((e.trans e2).trans e3).trans e4)).cut lo hi).ex (Ex.new hl))⟩

/-! ### statements -/
variable {D : Ends} {tu tw tz : TS} {g : TG}
theorem s_asgD {i : Nat} (h : Ed K te σ H d) (k : ∀ v H1, Ex H H1 → Rp K H1 v d → D.nx (σ.set i (some v)) H1) : tAsg te (gName i) D σ H := h H (Ex.refl H) _ fun v H1 e r => k v H1 e r
theorem q_asgD {i : Nat} (h : Ed K te σ H d) (k : ∀ v H1, Ex H H1 → Rp K H1 v d → tz D (σ.set i (some v)) H1) : tSeq (tAsg te (gName i)) tz D σ H := s_asgD (D := { D with nx := tz D }) h k
theorem s_asgM {i : Nat} (h : EdL K te σ H ds) (k : ∀ p vs H1, H p = none → Ex H H1 → H1 p = some (.lst vs) → Rps K H1 vs ds → D.nx (σ.set i (some (.ref p))) H1) : tAsg te (gName i) D σ H := h H (Ex.refl H) _ fun p vs H1 hp e h1 r => k p vs H1 hp e h1 r
theorem q_asgM {i : Nat} (h : EdL K te σ H ds) (k : ∀ p vs H1, H p = none → Ex H H1 → H1 p = some (.lst vs) → Rps K H1 vs ds → tz D (σ.set i (some (.ref p))) H1) : tSeq (tAsg te (gName i)) tz D σ H := s_asgM (D := { D with nx := tz D }) h k
theorem q_asgK {i : Nat} {kvs : List (Key × V)} (h : EvK te σ H kvs) (k : ∀ p H1, H p = none → Ex H H1 → H1 p = some (.dK kvs) → tz D (σ.set i (some (.ref p))) H1) : tSeq (tAsg te (gName i)) tz D σ H := h H (Ex.refl H) _ fun p H1 hp e h1 => k p H1 hp e h1
theorem s_retD (h : Ed K te σ H d) (k : ∀ v H1, Ex H H1 → Rp K H1 v d → D.rt v H1) : tRet te D σ H := h H (Ex.refl H) _ fun v H1 e r => k v H1 e r
theorem s_retM (h : EdL K te σ H ds) (k : ∀ p vs H1, H p = none → Ex H H1 → H1 p = some (.lst vs) → Rps K H1 vs ds → D.rt (.ref p) H1) : tRet te D σ H := h H (Ex.refl H) _ fun p vs H1 hp e h1 r => k p vs H1 hp e h1 r
theorem s_appD {l : Addr} {xs : List V} (hl : H l = some (.lst xs)) (ha : Ev ta σ H (.ref l)) (h : Ed K te σ H d) (hz : xs.length < 100000) (k : ∀ v H1, Ex H H1 → Rp K H1 v d → D.nx σ (upd H1 l (.lst (xs ++ [v])))) :
    tDrop (tBM K "list" rAppend ta (tCons te tNil)) D σ H := ha H (Ex.refl H) _ fun H1 e1 =>
  ⟨Or.inl ⟨rfl, xs, sq_of (e1 l _ hl)⟩, h H1 e1 _ fun v H2 e2 r => ⟨l, xs, v, rfl, rfl, e2 l _ (e1 l _ hl), sz_lt hz, k v H2 (e1.trans e2) r⟩⟩
theorem q_appD {l : Addr} {xs : List V} (hl : H l = some (.lst xs)) (ha : Ev ta σ H (.ref l)) (h : Ed K te σ H d) (hz : xs.length < 100000) (k : ∀ v H1, Ex H H1 → Rp K H1 v d → tz D σ (upd H1 l (.lst (xs ++ [v])))) :
    tSeq (tDrop (tBM K "list" rAppend ta (tCons te tNil))) tz D σ H := s_appD (D := { D with nx := tz D }) hl ha h hz k
/-- a, b = x, y -/
theorem q_par {i j : Nat} (k : tr σ H fun vs H1 => ∃ v w, vs = [v, w] ∧ tz D ((σ.set i (some v)).set j (some w)) H1) : tSeq (tPar i j tr) tz D σ H := k
theorem q_parD {i j : Nat} (h : Eds K tr σ H [d, d2]) (k : ∀ v w H1, Ex H H1 → Rp K H1 v d → Rp K H1 w d2 → tz D ((σ.set i (some v)).set j (some w)) H1) : tSeq (tPar i j tr) tz D σ H := h H (Ex.refl H) _ fun vs H1 e r => by
  cases r with
  | cons r1 r =>
    cases r with
    | cons r2 r =>
      cases r
      exact ⟨_, _, rfl, k _ _ H1 e r1 r2⟩
/-- a list, then data -/
theorem q_parMD {i j : Nat} (h1 : EdL K ta σ H ds) (h2 : Ed K tb σ H d) (k : ∀ p vs w H1, H p = none → Ex H H1 → H1 p = some (.lst vs) → Rps K H1 vs ds → Rp K H1 w d → tz D ((σ.set i (some (.ref p))).set j (some w)) H1) : tSeq (tPar i j (tCons ta (tCons tb tNil))) tz D σ H :=
  h1 H (Ex.refl H) _ fun p vs H1 hp e1 hl r => h2 H1 e1 _ fun w H2 e2 r2 => ⟨_, _, rfl, k p vs w H2 hp (e1.trans e2) (e2 _ _ hl) (r.ex e2) r2⟩

/-! ### what is walked -/
def WkD (K : PySem.W.Frag) (J : It) (G : Hp → Prop) (ds : List PyData) : Prop := Walk J ds.length G (fun i H x H' => Ex H H' ∧ ∃ d, ds[i]? = some d ∧ Rp K H' x d)
/-- the walk gives that data, as long as what S keeps stays -/
def EdI (S : Hp → Hp → Prop) (K : PySem.W.Frag) (wi : TI) (σ : L2.St) (H : Hp) (ds : List PyData) : Prop :=
  ∀ H1, Ex H H1 → ∀ R : It → Hp → Prop, (∀ J G H2, Ex H1 H2 → (∀ H', S H2 H' → G H') → WkD K J G ds → R J H2) → wi σ H1 R
theorem EdI.ex {wi : TI} (h : EdI TEx K wi σ H ds) : EdI Ex K wi σ H ds := fun H1 e R q => h H1 e R fun J G H2 e2 g w => q J G H2 e2 (fun H' e' => g H' (exT e')) w
theorem edI_tup {tl : TE} (h : Ed K tl σ H (.tuple ds)) : EdI TEx K (iTup K tl) σ H ds := fun H1 e R q =>
  h H1 e _ fun v H2 e2 r => by
    obtain ⟨a, xs, rfl, hs, rs⟩ := rp_tup r
    refine ⟨a, rfl, ⟨xs, hs⟩, q _ (fun H => SqT K H a xs ∧ Rps K H xs ds) H2 e2 (fun H' t => ⟨t.sq hs, rs.up t⟩) ?_⟩
    unfold WkD
    rw [← rs.len]
    refine walk_tup.mono (fun _ g => g.1) fun i H x H' hi g y => ?_
    obtain ⟨rfl, hx⟩ := y
    obtain ⟨d, h1, h2⟩ := g.2.to hx
    exact ⟨Ex.refl _, d, h1, h2⟩
theorem edI_list {tl : TE} {p : Addr} {vs : List V} (h : Ev tl σ H (.ref p)) (hs : SqL K H p vs) (rs : Rps K H vs ds) : EdI Ex K (iList K tl) σ H ds := fun H1 e R q =>
  h H1 e _ fun H2 e2 => by
    refine ⟨p, rfl, ⟨vs, ex_l (e.trans e2) hs⟩, q _ (fun H => SqL K H p vs ∧ Rps K H vs ds) H2 e2 (fun H' t => ⟨ex_l t (ex_l (e.trans e2) hs), (rs.ex (e.trans e2)).ex t⟩) ?_⟩
    unfold WkD
    rw [← rs.len]
    refine walk_list.mono (fun _ g => g.1) fun i H x H' hi g y => ?_
    obtain ⟨rfl, hx⟩ := y
    obtain ⟨d, h1, h2⟩ := g.2.to hx
    exact ⟨Ex.refl _, d, h1, h2⟩
theorem edI_new {tl : TE} (h : EdL K tl σ H ds) : EdI Ex K (iList K tl) σ H ds := fun H1 e R q =>
  h H1 e _ fun p vs H2 _ e2 hl rs => by
    refine ⟨p, rfl, ⟨vs, sq_of hl⟩, q _ (fun H => SqL K H p vs ∧ Rps K H vs ds) H2 e2 (fun H' t => ⟨ex_l t (sq_of hl), rs.ex t⟩) ?_⟩
    unfold WkD
    rw [← rs.len]
    refine walk_list.mono (fun _ g => g.1) fun i H x H' hi g y => ?_
    obtain ⟨rfl, hx⟩ := y
    obtain ⟨d, h1, h2⟩ := g.2.to hx
    exact ⟨Ex.refl _, d, h1, h2⟩
/-- range(n), range(lo, n) -/
def rngD (lo : Int) (n : Nat) : List PyData := (List.range n).map fun i => .int (lo + (i : Nat))
theorem edI_rng1 {n : Int} (h : EvA tr σ H [.int n]) (hn : n < 2 ^ 60 ∧ - (2 ^ 60) < n) : EdI TEx K (iRng1 tr) σ H (rngD 0 n.toNat) := fun H1 e R q =>
  h H1 e _ fun H2 e2 => ⟨n, rfl, by omega, by omega, q _ (fun _ => True) H2 e2 (fun _ _ => trivial) (by
    unfold WkD rngD
    rw [List.length_map, List.length_range]
    refine walk_range.mono (fun _ g => g) fun i H x H' hi g y => ?_
    obtain ⟨rfl, rfl⟩ := y
    refine ⟨Ex.refl _, _, ?_, .int _⟩
    rw [List.getElem?_map, List.getElem?_range hi] <;> rfl)⟩
theorem edI_rng2 {lo n : Int} (h : EvA tr σ H [.int lo, .int n]) (hl : lo < 2 ^ 60 ∧ - (2 ^ 60) < lo) (hn : n < 2 ^ 60 ∧ - (2 ^ 60) < n) : EdI TEx K (iRng2 tr) σ H (rngD lo (n - lo).toNat) := fun H1 e R q =>
  h H1 e _ fun H2 e2 => ⟨lo, n, rfl, ⟨by omega, by omega, by omega, by omega⟩, q _ (fun _ => True) H2 e2 (fun _ _ => trivial) (by
    unfold WkD rngD
    rw [List.length_map, List.length_range]
    refine walk_range.mono (fun _ g => g) fun i H x H' hi g y => ?_
    obtain ⟨rfl, rfl⟩ := y
    refine ⟨Ex.refl _, _, ?_, .int _⟩
    rw [List.getElem?_map, List.getElem?_range hi] <;> rfl)⟩
/-- enumerate(t) -/
def enD (ds : List PyData) : List PyData := (List.range ds.length).map fun i => .tuple [.int (i : Nat), ds.getD i .none]
theorem enD_len (ds : List PyData) : (enD ds).length = ds.length := by simp [enD]
theorem enD_at {ds : List PyData} {i : Nat} {d : PyData} (h : ds[i]? = some d) : (enD ds)[i]? = some (.tuple [.int (i : Nat), d]) := by
  have hi := (List.getElem?_eq_some_iff.mp h).1
  unfold enD
  rw [List.getElem?_map, List.getElem?_range hi]
  simp [List.getD_eq_getElem?_getD, h]
theorem rp_pair {T : Addr} {x y : V} (hT : H T = some (.tup [x, y])) (r1 : Rp K H x d) (r2 : Rp K H y d2) : Rp K H (.ref T) (.tuple [d, d2]) := .tup (SqT.of hT) (.cons r1 (.cons r2 .nil))
theorem edI_enT (h : Eds K tr σ H [.tuple ds]) : EdI TEx K (iEnumT K tr) σ H (enD ds) := fun H1 e R q =>
  h H1 e _ fun vs H2 e2 r => by
    cases r with
    | cons r rr =>
      cases rr
      obtain ⟨a, xs, rfl, hs, rs⟩ := rp_tup r
      refine ⟨a, xs, rfl, hs, q _ (fun H => SqT K H a xs ∧ Rps K H xs ds) H2 e2 (fun H' t => ⟨t.sq hs, rs.up t⟩) ?_⟩
      unfold WkD
      rw [enD_len, ← rs.len]
      refine walk_enumT.mono (fun _ g => g.1) fun i H x H' hi g y => ?_
      obtain ⟨T, x1, y1, rfl, hT, rfl, h1, h2⟩ := y
      obtain ⟨d, h3, h4⟩ := g.2.to h2
      cases h1
      exact ⟨Ex.new hT, _, enD_at h3, rp_pair upd_same (.int _) (h4.ex (Ex.new hT))⟩
theorem edI_enL {p : Addr} {vs : List V} (h : Ev te σ H (.ref p)) (hs : SqL K H p vs) (rs : Rps K H vs ds) : EdI Ex K (iEnum K (tCons te tNil)) σ H (enD ds) := fun H1 e R q =>
  h H1 e _ fun H2 e2 => by
    refine ⟨p, vs, rfl, ex_l (e.trans e2) hs, q _ (fun H => SqL K H p vs ∧ Rps K H vs ds) H2 e2 (fun H' t => ⟨ex_l t (ex_l (e.trans e2) hs), (rs.ex (e.trans e2)).ex t⟩) ?_⟩
    unfold WkD
    rw [enD_len, ← rs.len]
    refine walk_enum.mono (fun _ g => g.1) fun i H x H' hi g y => ?_
    obtain ⟨T, x1, y1, rfl, hT, rfl, h1, h2⟩ := y
    obtain ⟨d, h3, h4⟩ := g.2.to h2
    cases h1
    exact ⟨Ex.new hT, _, enD_at h3, rp_pair upd_same (.int _) (h4.ex (Ex.new hT))⟩
/-- zip(t, u) of tuples -/
def zpD (ds es : List PyData) : List PyData := ds.zip es |>.map fun p => .tuple [p.1, p.2]
theorem edI_zpT (h : Eds K tr σ H [.tuple ds, .tuple es]) : EdI TEx K (RZ.iZipA K tr) σ H (zpD ds es) := fun H1 e R q =>
  h H1 e _ fun vs H2 e2 r => by
    cases r with
    | cons r rr =>
      cases rr with
      | cons r' rr =>
        cases rr
        obtain ⟨a, xs, rfl, hs, rs⟩ := rp_tup r
        obtain ⟨b, ys, rfl, hs2, rs2⟩ := rp_tup r'
        refine ⟨a, b, xs, ys, rfl, .inr ⟨hs, hs2, q _ (fun H => (SqT K H a xs ∧ SqT K H b ys) ∧ Rps K H xs ds ∧ Rps K H ys es) H2 e2 (fun H' t => ⟨⟨t.sq hs, t.sq hs2⟩, rs.up t, rs2.up t⟩) ?_⟩⟩
        unfold WkD zpD
        rw [List.length_map, List.length_zip, ← rs.len, ← rs2.len]
        refine (walk_zipT rfl).mono (fun _ g => g.1) fun i H x H' hi g y => ?_
        obtain ⟨T, x1, y1, rfl, hT, rfl, h1, h2⟩ := y
        obtain ⟨d, h3, h4⟩ := g.2.1.to h1
        obtain ⟨d', h5, h6⟩ := g.2.2.to h2
        refine ⟨Ex.new hT, .tuple [d, d'], ?_, rp_pair upd_same (h4.ex (Ex.new hT)) (h6.ex (Ex.new hT))⟩
        rw [List.getElem?_map, List.getElem?_zip_eq_some (z := (d, d')) |>.mpr ⟨h3, h5⟩]
        rfl
/-- signs of a text -/
def sgD (z : Str) : List PyData := z.cps.toList.map fun c => .str ⟨#[c]⟩
theorem edI_str {z : Str} (h : Ev te σ H (.str z)) : EdI TEx K (iStr te) σ H (sgD z) := fun H1 e R q =>
  h H1 e _ fun H2 e2 => by
    refine ⟨z, rfl, q _ (fun _ => True) H2 e2 (fun _ _ => trivial) ?_⟩
    unfold WkD sgD
    rw [List.length_map, Array.length_toList]
    refine walk_str.mono (fun _ g => g) fun i H x H' hi g y => ?_
    obtain ⟨rfl, c, hc, rfl⟩ := y
    refine ⟨Ex.refl _, _, ?_, .str _⟩
    rw [List.getElem?_map, Array.getElem?_toList, hc]
    rfl
/-- targets -/
theorem g_pair {i j : Nat} {Q : L2.St → Hp → Prop} (r : Rp K H x (.tuple [d, d2])) (k : ∀ v w, Rp K H v d → Rp K H w d2 → Q ((σ.set i (some v)).set j (some w)) H) : gTup K 2 (gCons (gName i) (gCons (gName j) gNil)) x σ H Q := by
  obtain ⟨a, xs, rfl, hs, rs⟩ := rp_tup r
  cases rs with
  | cons r1 rs =>
    cases rs with
    | cons r2 rs =>
      cases rs
      exact ⟨a, _, rfl, hs, rfl, _, _, rfl, _, _, rfl, rfl, k _ _ r1 r2⟩
/-- for, over what stays -/
theorem s_forD {S : Hp → Hp → Prop} {wi : TI} (h : EdI S K wi σ H ds) (Pv : Hp → Nat → L2.St → Hp → Prop) (h0 : ∀ H2, Ex H H2 → Pv H2 0 σ H2) (hst : ∀ H2 i σ' H', Ex H H2 → i ≤ ds.length → Pv H2 i σ' H' → S H2 H')
    (hs : ∀ H2 i d x σ' H' H'', Ex H H2 → ds[i]? = some d → Pv H2 i σ' H' → Ex H' H'' → Rp K H'' x d → g x σ' H'' fun σ2 H3 => tu { D with nx := Pv H2 (i + 1), ct := Pv H2 (i + 1), bk := D.nx } σ2 H3)
    (hd : ∀ H2 σ' H', Ex H H2 → Pv H2 ds.length σ' H' → D.nx σ' H') : tFor wi g tu D σ H :=
  h H (Ex.refl H) _ fun J G H2 e2 gs w => for_it w (Pv H2) (h0 H2 e2) (fun i σ' H' hi p => gs H' (hst H2 i σ' H' e2 hi p)) (fun i x σ' H' H'' hi p y => by
    obtain ⟨e3, d, hd', r⟩ := y
    exact hs H2 i d x σ' H' H'' e2 hd' p e3 r) (fun σ' H' p => hd H2 σ' H' e2 p)
theorem q_forD {S : Hp → Hp → Prop} {wi : TI} (h : EdI S K wi σ H ds) (Pv : Hp → Nat → L2.St → Hp → Prop) (h0 : ∀ H2, Ex H H2 → Pv H2 0 σ H2) (hst : ∀ H2 i σ' H', Ex H H2 → i ≤ ds.length → Pv H2 i σ' H' → S H2 H')
    (hs : ∀ H2 i d x σ' H' H'', Ex H H2 → ds[i]? = some d → Pv H2 i σ' H' → Ex H' H'' → Rp K H'' x d → g x σ' H'' fun σ2 H3 => tu { D with nx := Pv H2 (i + 1), ct := Pv H2 (i + 1), bk := tz D } σ2 H3)
    (hd : ∀ H2 σ' H', Ex H H2 → Pv H2 ds.length σ' H' → tz D σ' H') : tSeq (tFor wi g tu) tz D σ H := s_forD (D := { D with nx := tz D }) h Pv h0 hst hs hd

/-! ### comprehensions -/
def givenD (n : Nat) (f : Nat → Bool) (v : Nat → PyData) : List PyData := ((List.range n).filter f).map v
theorem givenD_yes {n : Nat} {f : Nat → Bool} {v : Nat → PyData} (h : f n = true) : givenD (n + 1) f v = givenD n f v ++ [v n] := by
  unfold givenD
  rw [List.range_succ, List.filter_append, List.map_append, List.filter_cons, if_pos h] <;> rfl
theorem givenD_no {n : Nat} {f : Nat → Bool} {v : Nat → PyData} (h : f n = false) : givenD (n + 1) f v = givenD n f v := by
  unfold givenD
  rw [List.range_succ, List.filter_append, List.map_append, List.filter_cons, if_neg (by rw [h]; decide)]
  exact List.append_nil _
theorem givenD_len (n : Nat) (f : Nat → Bool) (v : Nat → PyData) : (givenD n f v).length ≤ n := by
  unfold givenD
  rw [List.length_map]
  exact Nat.le_trans (List.length_filter_le f (List.range n)) (Nat.le_of_eq List.length_range)
theorem givenD_map {ds : List PyData} {m : PyData → PyData} : givenD ds.length (fun _ => true) (fun i => m (ds.getD i .none)) = ds.map m := by
  unfold givenD
  rw [List.filter_eq_self.mpr (fun _ _ => rfl)]
  refine List.ext_getElem? fun i => ?_
  rw [List.getElem?_map, List.getElem?_map]
  by_cases hi : i < ds.length
  · rw [List.getElem?_range hi, List.getElem?_eq_getElem hi]
    simp [List.getD_eq_getElem?_getD, List.getElem?_eq_getElem hi]
  · rw [List.getElem?_eq_none (by simpa using hi), List.getElem?_eq_none (by omega)] <;> rfl
theorem givenD_filter {m : PyData → PyData} {f : PyData → Bool} : ∀ {ds : List PyData}, givenD ds.length (fun i => f (ds.getD i .none)) (fun i => m (ds.getD i .none)) = (ds.filter f).map m := by
  intro ds
  have h : (List.range ds.length).map (fun i => ds.getD i .none) = ds := by
    have := givenD_map (ds := ds) (m := id)
    unfold givenD at this
    rw [List.filter_eq_self.mpr (fun _ _ => rfl), List.map_id] at this
    exact this
  unfold givenD
  conv => rhs; rw [← h]
  rw [List.filter_map, List.map_map]
  rfl
def CwD (K : PySem.W.Frag) (H : Hp) (f : Nat → Bool) (v : Nat → PyData) (Dl : Addr) (i : Nat) (H' : Hp) : Prop := H Dl = none ∧ Ex H H' ∧ ∃ vs, H' Dl = some (.lst vs) ∧ Rps K H' vs (givenD i f v)
theorem edL_lc {S : Hp → Hp → Prop} {wi : TI} {ws : List Nat} (h : EdI S K wi σ H ds) (hS : ∀ A B, Ex A B → S A B) (hz : ds.length ≤ 100000) (f : Nat → Bool) (m : Nat → PyData)
    (turn : ∀ i d x H1, Ex H H1 → ds[i]? = some d → Rp K H1 x d → g x (wipe σ ws) H1 fun σ2 H2 => wipe σ2 ws = wipe σ ws ∧ Ex H1 H2 ∧ EvT t σ2 H2 (f i) ∧ (f i = true → Ed K te σ2 H2 (m i)))
    (gm : ∀ x σ1 H1 Q Q', (∀ σ2 H2, Q σ2 H2 → Q' σ2 H2) → g x σ1 H1 Q → g x σ1 H1 Q') : EdL K (tLc wi g t te ws) σ H (givenD ds.length f m) := fun H1 e Q q =>
  h H1 e _ fun J G H2 e2 gs w D hD => lc_it w (CwD K H2 f m D) ⟨hD, Ex.new hD, [], upd_same, .nil⟩ (fun i H' hi p => gs H' (hS _ _ p.2.1)) (fun i x H' H'' hi p y => by
    obtain ⟨e3, d, hd', r⟩ := y
    obtain ⟨p1, p2, vs, p3, p4⟩ := p
    refine gm _ _ _ _ _ ?_ (turn i d x H'' (((e.trans e2).trans p2).trans e3) hd' r)
    rintro σ2 H3 ⟨hw, e4, ht, he⟩
    refine ⟨hw, ht H3 (Ex.refl _) _ fun H4 e5 => ?_⟩
    cases hf : f i with
    | true =>
      rw [if_pos rfl]
      refine he hf H4 e5 _ fun y H5 e6 ry => ?_
      have eD := e6 D _ (e5 D _ (e4 D _ (e3 D _ p3)))
      have eall := ((e3.trans e4).trans e5).trans e6
      have hl : vs.length ≤ i := by rw [p4.len]; exact givenD_len i f m
      have tx : TEx H5 (upd H5 D (.lst (vs ++ [y]))) := TEx.lst eD
      refine ⟨vs, eD, sz_lt (by omega), p1, Ex.mut (p2.trans eall) p1, vs ++ [y], upd_same, ?_⟩
      rw [givenD_yes hf]
      exact ((p4.ex eall).up tx).snoc (ry.up tx)
    | false =>
      rw [if_neg Bool.false_ne_true]
      refine ⟨p1, p2.trans ((e3.trans e4).trans e5), vs, e5 D _ (e4 D _ (e3 D _ p3)), ?_⟩
      rw [givenD_no hf]
      exact p4.ex ((e3.trans e4).trans e5)) (fun H' p => by
        obtain ⟨p1, p2, vs, p3, p4⟩ := p
        exact q D vs H' (fresh_back e2 p1) (e2.trans p2) p3 p4)
theorem gm_name {j : Nat} : ∀ x σ1 H1 Q Q', (∀ σ2 H2, Q σ2 H2 → Q' σ2 H2) → gName j x σ1 H1 Q → gName j x σ1 H1 Q' := fun _ _ _ _ _ h q => h _ _ q
theorem gm_pair {i j : Nat} : ∀ x σ1 H1 Q Q', (∀ σ2 H2, Q σ2 H2 → Q' σ2 H2) → gTup K 2 (gCons (gName i) (gCons (gName j) gNil)) x σ1 H1 Q → gTup K 2 (gCons (gName i) (gCons (gName j) gNil)) x σ1 H1 Q' := fun _ _ _ _ _ h q => by
  obtain ⟨a, xs, h1, h2, h3, v, r, h4, v2, r2, h5, h6, q⟩ := q
  exact ⟨a, xs, h1, h2, h3, v, r, h4, v2, r2, h5, h6, h _ _ q⟩
/-- [e for x in ..]: one name, no test -/
theorem edL_map {S : Hp → Hp → Prop} {wi : TI} {ws : List Nat} {j : Nat} (m : PyData → PyData) (h : EdI S K wi σ H ds) (hS : ∀ A B, Ex A B → S A B) (hz : ds.length ≤ 100000) (hw : ∀ x, wipe ((wipe σ ws).set j (some x)) ws = wipe σ ws)
    (turn : ∀ d x H1, Ex H H1 → d ∈ ds → Rp K H1 x d → Ed K te ((wipe σ ws).set j (some x)) H1 (m d)) : EdL K (tLc wi (gName j) tYes te ws) σ H (ds.map m) := by
  rw [← givenD_map]
  refine edL_lc h hS hz _ _ (fun i d x H1 e hd r => ?_) gm_name
  refine ⟨hw x, Ex.refl _, fun H2 _ Q q => q H2 (Ex.refl _), fun _ => ?_⟩
  rw [List.getD_eq_getElem?_getD, hd]
  exact turn d x H1 e (List.mem_of_getElem? hd) r
/-- [e for x in .. if t] -/
theorem edL_flt {S : Hp → Hp → Prop} {wi : TI} {ws : List Nat} {j : Nat} (f : PyData → Bool) (m : PyData → PyData) (h : EdI S K wi σ H ds) (hS : ∀ A B, Ex A B → S A B) (hz : ds.length ≤ 100000) (hw : ∀ x, wipe ((wipe σ ws).set j (some x)) ws = wipe σ ws)
    (turn : ∀ d x H1, Ex H H1 → d ∈ ds → Rp K H1 x d → EvT t ((wipe σ ws).set j (some x)) H1 (f d) ∧ (f d = true → Ed K te ((wipe σ ws).set j (some x)) H1 (m d))) : EdL K (tLc wi (gName j) t te ws) σ H ((ds.filter f).map m) := by
  rw [← givenD_filter]
  refine edL_lc h hS hz _ _ (fun i d x H1 e hd r => ?_) gm_name
  have z := turn d x H1 e (List.mem_of_getElem? hd) r
  refine ⟨hw x, Ex.refl _, ?_⟩
  simp only [List.getD_eq_getElem?_getD, hd, Option.getD_some]
  exact z
/-- [e for x, y in .. if t] -/
theorem edL_flt2 {S : Hp → Hp → Prop} {wi : TI} {ws : List Nat} {j k : Nat} (f : PyData → Bool) (m : PyData → PyData) (h : EdI S K wi σ H ds) (hS : ∀ A B, Ex A B → S A B) (hz : ds.length ≤ 100000) (hw : ∀ x y, wipe (((wipe σ ws).set j (some x)).set k (some y)) ws = wipe σ ws)
    (hp : ∀ d, d ∈ ds → ∃ a b, d = .tuple [a, b])
    (turn : ∀ a b x y H1, Ex H H1 → (.tuple [a, b]) ∈ ds → Rp K H1 x a → Rp K H1 y b → EvT t (((wipe σ ws).set j (some x)).set k (some y)) H1 (f (.tuple [a, b])) ∧ (f (.tuple [a, b]) = true → Ed K te (((wipe σ ws).set j (some x)).set k (some y)) H1 (m (.tuple [a, b])))) :
    EdL K (tLc wi (gTup K 2 (gCons (gName j) (gCons (gName k) gNil))) t te ws) σ H ((ds.filter f).map m) := by
  rw [← givenD_filter]
  refine edL_lc h hS hz _ _ (fun i d x H1 e hd r => ?_) gm_pair
  have hm := List.mem_of_getElem? hd
  obtain ⟨a, b, rfl⟩ := hp d hm
  refine g_pair r fun v w rv rw' => ?_
  have z := turn a b v w H1 e hm rv rw'
  refine ⟨hw v w, Ex.refl _, ?_⟩
  simp only [List.getD_eq_getElem?_getD, hd, Option.getD_some]
  exact z
theorem edL_map2 {S : Hp → Hp → Prop} {wi : TI} {ws : List Nat} {j k : Nat} (m : PyData → PyData) (h : EdI S K wi σ H ds) (hS : ∀ A B, Ex A B → S A B) (hz : ds.length ≤ 100000) (hw : ∀ x y, wipe (((wipe σ ws).set j (some x)).set k (some y)) ws = wipe σ ws)
    (hp : ∀ d, d ∈ ds → ∃ a b, d = .tuple [a, b])
    (turn : ∀ a b x y H1, Ex H H1 → (.tuple [a, b]) ∈ ds → Rp K H1 x a → Rp K H1 y b → Ed K te (((wipe σ ws).set j (some x)).set k (some y)) H1 (m (.tuple [a, b]))) :
    EdL K (tLc wi (gTup K 2 (gCons (gName j) (gCons (gName k) gNil))) tYes te ws) σ H (ds.map m) := by
  have z := edL_flt2 (te := te) (t := tYes) (j := j) (k := k) (fun _ => true) m h hS hz hw hp (fun a b x y H1 e hm r1 r2 => ⟨fun H2 _ Q q => q H2 (Ex.refl _), fun _ => turn a b x y H1 e hm r1 r2⟩)
  rw [List.filter_eq_self.mpr (fun _ _ => rfl)] at z
  exact z
theorem enD_pairs {ds : List PyData} : ∀ d, d ∈ enD ds → ∃ a b, d = .tuple [a, b] := fun d hd => by
  unfold enD at hd
  obtain ⟨i, _, rfl⟩ := List.mem_map.mp hd
  exact ⟨_, _, rfl⟩
theorem zpD_pairs {ds es : List PyData} : ∀ d, d ∈ zpD ds es → ∃ a b, d = .tuple [a, b] := fun d hd => by
  unfold zpD at hd
  obtain ⟨i, _, rfl⟩ := List.mem_map.mp hd
  exact ⟨_, _, rfl⟩
end
end PR
end
section
set_option Elab.async false
set_option linter.all false
set_option maxRecDepth 100000
set_option maxHeartbeats 4000000
/-! Dict comprehensions as statements; what they give. -/
namespace PR
open PySem PySem.Spec PyProof.Rows L2 Evl
section
variable {X : Cx}
/-- name = {k: v for ..} on one line, the name a local -/
theorem ps_setDc {i : Nat} {y : Str} {py : Pos} {kx vx tg iter : Expr} {ifs : List Expr} {scope : Scope} {own : List (Str × Nat)} {pos spos : Pos} {wi : TI} {g : TG} {tt : TT} {tk tv : TE}
    (hc : X.calm = true) (hN : X.N.Nodup) (hy : X.N[i]? = some y) (hyl : X.env.scope.names.lookup y = some .local)
    (hsw : swapsWith (.DictComp kx vx [⟨tg, iter, ifs, 0⟩] scope pos) (some (.Name y py)) spos.line X.env = pure true) (hi : PI X tg iter wi) (ok : BlkOk X.N X.env.scope scope own)
    (hg : ∀ (sh : Shared) (Hh : Hp) (C : Addr) (cl : List (Str × Addr)) (fp : List Addr), PG (X.blk sh Hh scope (compEnvC scope cl C X.env) fp) tg g)
    (ht : ∀ (sh : Shared) (Hh : Hp) (C : Addr) (cl : List (Str × Addr)) (fp : List Addr), PTs (X.blk sh Hh scope (compEnvC scope cl C X.env) fp) ifs tt)
    (hk : ∀ (sh : Shared) (Hh : Hp) (C : Addr) (cl : List (Str × Addr)) (fp : List Addr), PE (X.blk sh Hh scope (compEnvC scope cl C X.env) fp) kx tk)
    (he : ∀ (sh : Shared) (Hh : Hp) (C : Addr) (cl : List (Str × Addr)) (fp : List Addr), PE (X.blk sh Hh scope (compEnvC scope cl C X.env) fp) vx tv)
    (hs : ∀ x, foldedSetIterable iter X.env x = pure x := by intro _; rfl) :
    PS X (.Assign [.Name y py] (.DictComp kx vx [⟨tg, iter, ifs, 0⟩] scope pos) spos) (tAsg (tDc wi g tt tk tv (own.map (·.2))) (gName i)) := by
  refine ⟨fun pins st0 σ Hh D I hrd => ?_⟩
  rw [exec_Assign_Name_used _ _ _ _ hsw]
  refine wpAny_bind (wpAny_standAt (wpAny_bind ?_))
  show wpAny _ X.A (do let _ ← comprehension (.DictComp kx vx [⟨tg, iter, ifs, 0⟩] scope pos) scope X.env (firstIterPos [⟨tg, iter, ifs, 0⟩] pos) newDict false (eval iter X.env) (some (assign (.Name y py) X.env))) _ _ st0
  have hrd : tDc wi g tt tk tv (own.map (·.2)) σ Hh (fun x H1 => gName i x σ H1 D.nx) := hrd
  refine wpAny_bind (thn (dc_core (Qf := fun _ s' => SP X pins D .next s') hc hN I hi ok hg ht hk he hs hrd fun L C s' m H' I' q hn f => ?_) fun _ s' hq => wpAny_pure (wpAny_pure hq))
  show wpAny _ _ (assign (.Name y py) X.env (.ref L)) _ _ _
  refine wpAny_assign_Name (store_ok2 (v := V.ref L) I' hN hy (.inl hyl) rfl (fun s2 I2 ⟨a, sb, ha⟩ => ?_) (.inr hyl))
  obtain ⟨f0, f1, f2, f3, f4, f5⟩ := f
  have apart : C ≠ a := by
    rcases ha with z | z
    · rw [z]; exact f1
    · exact fun e => f4 y a z e.symm
  refine ⟨m, hn.sameBut sb apart, fun h3 sb3 => ?_⟩
  exact ⟨_, H', I2.turned (t' := s2.toks) (fun b o hb e => (sb3.2 b hb).trans e) f0 f1 f3 f4 f5, q⟩
theorem sw_dc {kx vx : Expr} {gs : List Comprehension} {scope : Scope} {pos py : Pos} {y : Str} {l : Nat} {env : Env} (hk : env.scope.kind = .function) (hy : env.scope.names.lookup y = some .local) (hl : (py.line == pos.line) = true)
    (ha : (scope.names.any fun (n, k) => n == y && (k == .local || k == .cell)) = false) : swapsWith (.DictComp kx vx gs scope pos) (some (.Name y py)) l env = pure true := by
  have e1 : env.kindOf y = some .local := hy
  have e2 : env.blockKind = .function := by unfold Env.blockKind; rw [hk]; rfl
  unfold swapsWith
  simp only [e2, e1, ha, Expr.pos, hl]
  rfl
end
/-- the entries after i turns -/
def dcAt (ks : Nat → Key) (zs : Nat → V) : Nat → List (Key × V)
  | 0 => []
  | i + 1 => putK (dcAt ks zs i) (ks i) (zs i)
theorem dcAt_len (ks : Nat → Key) (zs : Nat → V) : ∀ i, (dcAt ks zs i).length ≤ i
  | 0 => Nat.le_refl _
  | i + 1 => Nat.le_trans (length_putK _ _ _) (Nat.succ_le_succ (dcAt_len ks zs i))
theorem dcAt_val (ks : Nat → Key) (zs : Nat → V) (k : Key) : ∀ n, valV (dcAt ks zs n) k = (((List.range n).reverse.find? fun i => decide (ks i = k)).map zs)
  | 0 => rfl
  | n + 1 => by
    show valV (putK (dcAt ks zs n) (ks n) (zs n)) k = _
    rw [valV_put, dcAt_val ks zs k n, List.range_succ, List.reverse_append, List.reverse_singleton, List.singleton_append, List.find?_cons]
    by_cases h : k = ks n
    · rw [if_pos h, decide_eq_true h.symm] <;> rfl
    · rw [if_neg h, decide_eq_false fun e => h e.symm]
theorem valV_none_of {kvs : List (Key × V)} {k : Key} (h : k ∉ kvs.map (·.1)) : valV kvs k = none := by
  have e : kvs.find? (fun kv => decide (kv.1 = k)) = none := List.find?_eq_none.mpr fun kv hm e => h (by
    have e1 : kv.1 = k := of_decide_eq_true e
    rw [← e1]
    exact List.mem_map_of_mem hm)
  unfold valV
  rw [e]
  rfl
/-- keys that differ: the entries in their order -/
theorem dcAt_nodup {ks : Nat → Key} {zs : Nat → V} : ∀ {n : Nat}, (∀ i j, i < n → j < n → ks i = ks j → i = j) → dcAt ks zs n = (List.range n).map fun i => (ks i, zs i)
  | 0, _ => rfl
  | n + 1, h => by
    show putK (dcAt ks zs n) (ks n) (zs n) = _
    rw [dcAt_nodup (n := n) fun i j hi hj e => h i j (by omega) (by omega) e, List.range_succ, List.map_append]
    refine putK_new _ (valV_none_of fun hm => ?_)
    rw [List.map_map] at hm
    obtain ⟨i, hi, e⟩ := List.mem_map.mp hm
    have hi' := List.mem_range.mp hi
    have := h i n (by omega) (by omega) e
    omega
section
variable {K : PySem.W.Frag} {σ : L2.St} {H H' : Hp} {ta tb te tx tk tv : TE} {t u : TT} {x y z v : V} {d d2 : PyData} {ds es : List PyData} {tr : TA} {g : TG}
def CwK (H : Hp) (ks : Nat → Key) (zs : Nat → V) (Dl : Addr) (i : Nat) (H' : Hp) : Prop := H Dl = none ∧ Ex H H' ∧ H' Dl = some (.dK (dcAt ks zs i))
theorem evK_dc {S : Hp → Hp → Prop} {wi : TI} {ws : List Nat} (h : EdI S K wi σ H ds) (hS : ∀ A B, Ex A B → S A B) (hz : ds.length ≤ 100000) (ks : Nat → Key) (zs : Nat → V)
    (turn : ∀ i d x H1, Ex H H1 → ds[i]? = some d → Rp K H1 x d → g x (wipe σ ws) H1 fun σ2 H2 => wipe σ2 ws = wipe σ ws ∧ Ex H1 H2 ∧ EvT t σ2 H2 true ∧ Ev tk σ2 H2 (kV (ks i)) ∧ Ev tv σ2 H2 (zs i))
    (gm : ∀ x σ1 H1 Q Q', (∀ σ2 H2, Q σ2 H2 → Q' σ2 H2) → g x σ1 H1 Q → g x σ1 H1 Q') : EvK (tDc wi g t tk tv ws) σ H (dcAt ks zs ds.length) := fun H1 e Q q =>
  h H1 e _ fun J G H2 e2 gs w D hD => by
    refine ⟨fun i m H' => m = ds.length - i ∧ i ≤ ds.length ∧ CwK H2 ks zs D i H', ⟨ds.length, by simp, Nat.zero_le _, hD, Ex.new hD, upd_same⟩, ?_⟩
    rintro i m H' ⟨rfl, hi, p⟩
    have qg := gs H' (hS _ _ p.2.1)
    obtain ⟨p1, p2, p3⟩ := p
    by_cases hlt : i < ds.length
    · refine .inr ⟨w.goes i H' hlt qg, CwK H2 ks zs D (i + 1), fun H'' p' => ⟨ds.length - (i + 1), by omega, rfl, hlt, p'⟩, fun x H'' y => ?_⟩
      obtain ⟨e3, d, hd', r⟩ := w.yields i H' x H'' hlt qg y
      refine gm _ _ _ _ _ ?_ (turn i d x H'' (((e.trans e2).trans p2).trans e3) hd' r)
      rintro σ2 H3 ⟨hw, e4, ht, hk, hv⟩
      refine ⟨hw, ht H3 (Ex.refl _) _ fun H4 e5 => ?_⟩
      rw [if_pos rfl]
      refine hk H4 e5 _ fun H5 e6 => hv H5 (e5.trans e6) _ fun H6 e7 => ?_
      have ea := (((e3.trans e4).trans e5).trans e6).trans e7
      exact ⟨_, _, rfl, ea D _ p3, sz_lt (by have := dcAt_len ks zs i; omega), p1, Ex.mut (p2.trans ea) p1, upd_same⟩
    · have e0 : i = ds.length := by omega
      subst e0
      exact .inl ⟨w.stops H' qg, q D H' (fresh_back e2 p1) (e2.trans p2) p3⟩
/-- {k: v for x in ..} -/
theorem evK_map {S : Hp → Hp → Prop} {wi : TI} {ws : List Nat} {j : Nat} (ks : PyData → Key) (zs : PyData → V) (h : EdI S K wi σ H ds) (hS : ∀ A B, Ex A B → S A B) (hz : ds.length ≤ 100000) (hw : ∀ x, wipe ((wipe σ ws).set j (some x)) ws = wipe σ ws)
    (turn : ∀ d x H1, Ex H H1 → d ∈ ds → Rp K H1 x d → Ev tk ((wipe σ ws).set j (some x)) H1 (kV (ks d)) ∧ Ev tv ((wipe σ ws).set j (some x)) H1 (zs d)) :
    EvK (tDc wi (gName j) tYes tk tv ws) σ H (dcAt (fun i => ks (ds.getD i .none)) (fun i => zs (ds.getD i .none)) ds.length) := by
  refine evK_dc h hS hz _ _ (fun i d x H1 e hd r => ?_) gm_name
  refine ⟨hw x, Ex.refl _, fun H2 _ Q q => q H2 (Ex.refl _), ?_⟩
  simp only [List.getD_eq_getElem?_getD, hd, Option.getD_some]
  exact turn d x H1 e (List.mem_of_getElem? hd) r
theorem evK_map2 {S : Hp → Hp → Prop} {wi : TI} {ws : List Nat} {j k : Nat} (ks : PyData → Key) (zs : PyData → V) (h : EdI S K wi σ H ds) (hS : ∀ A B, Ex A B → S A B) (hz : ds.length ≤ 100000) (hw : ∀ x y, wipe (((wipe σ ws).set j (some x)).set k (some y)) ws = wipe σ ws)
    (hp : ∀ d, d ∈ ds → ∃ a b, d = .tuple [a, b])
    (turn : ∀ a b x y H1, Ex H H1 → (.tuple [a, b]) ∈ ds → Rp K H1 x a → Rp K H1 y b → Ev tk (((wipe σ ws).set j (some x)).set k (some y)) H1 (kV (ks (.tuple [a, b]))) ∧ Ev tv (((wipe σ ws).set j (some x)).set k (some y)) H1 (zs (.tuple [a, b]))) :
    EvK (tDc wi (gTup K 2 (gCons (gName j) (gCons (gName k) gNil))) tYes tk tv ws) σ H (dcAt (fun i => ks (ds.getD i .none)) (fun i => zs (ds.getD i .none)) ds.length) := by
  refine evK_dc h hS hz _ _ (fun i d x H1 e hd r => ?_) gm_pair
  have hm := List.mem_of_getElem? hd
  obtain ⟨a, b, rfl⟩ := hp d hm
  refine g_pair r fun v w rv rw' => ?_
  refine ⟨hw v w, Ex.refl _, fun H2 _ Q q => q H2 (Ex.refl _), ?_⟩
  simp only [List.getD_eq_getElem?_getD, hd, Option.getD_some]
  exact turn a b v w H1 e hm rv rw'
/-- d[k], k in d, len(d) of a dict that stands -/
theorem ev_dget {p : Addr} {kvs : List (Key × V)} {k : Key} (h1 : Ev ta σ H (.ref p)) (hp : H p = some (.dK kvs)) (h2 : Ev tb σ H (kV k)) (hv : valV kvs k = some v) : Ev (tDGet ta tb) σ H v := fun H1 e Q q =>
  h1 H1 e _ fun H2 e2 => h2 H2 (e.trans e2) _ fun H3 e3 => ⟨p, v, rfl, by rw [← hv]; exact DGet.k (((e.trans e2).trans e3) _ _ hp), q H3 (e2.trans e3)⟩
theorem ev_din {p : Addr} {kvs : List (Key × V)} {k : Key} {b : Bool} (h2 : Ev tb σ H (kV k)) (h1 : Ev ta σ H (.ref p)) (hp : H p = some (.dK kvs)) (hv : (valV kvs k).isSome = b) : Ev (tDIn tb ta) σ H (.bl b) := fun H1 e Q q =>
  h2 H1 e _ fun H2 e2 => h1 H2 (e.trans e2) _ fun H3 e3 => ⟨p, _, rfl, DGet.k (((e.trans e2).trans e3) _ _ hp), by rw [hv]; exact q H3 (e2.trans e3)⟩
theorem ev_dnin {p : Addr} {kvs : List (Key × V)} {k : Key} {b : Bool} (h2 : Ev tb σ H (kV k)) (h1 : Ev ta σ H (.ref p)) (hp : H p = some (.dK kvs)) (hv : (valV kvs k).isSome = b) : Ev (tDNotIn tb ta) σ H (.bl !b) := fun H1 e Q q =>
  h2 H1 e _ fun H2 e2 => h1 H2 (e.trans e2) _ fun H3 e3 => ⟨p, _, rfl, DGet.k (((e.trans e2).trans e3) _ _ hp), by rw [hv]; exact q H3 (e2.trans e3)⟩
def rLenD : List V → Hp → VK → Prop := fun xs H Q => ∃ a kvs, xs = [V.ref a] ∧ H a = some (.dK kvs) ∧ Q (.int kvs.length) H
theorem ev_lenK {kvs : List (Key × V)} (h : EvK ta σ H kvs) : Ev (tCB rLenD (tCons ta tNil)) σ H (.int (kvs.length : Int)) := fun H1 e Q q =>
  h H1 e _ fun p H2 _ e2 h2 => ⟨p, kvs, rfl, h2, q H2 e2⟩
end
end PR
end
section
set_option Elab.async false
set_option linter.all false
set_option maxRecDepth 100000
set_option maxHeartbeats 4000000
/-! A def that keeps a promise; its call; the names of the module. -/
namespace PR
open PySem PySem.Spec PyProof.Rows L2 Evl
/-- the def d keeps the promise sp, at level k -/
def Cal (P : Program) (w : World) (K : PySem.W.Frag) (mg : Str → Option Value) (base : Heap) (k : Nat) (d : DfP) (ps : List Str) (sp : Sp) : Prop :=
  ∃ fd, FnOk P w K mg base CX0 k (d.ad K) fd ps sp ∧ Binds K fd ps [] ∧ PySem.W.keepIn K (.ref (d.ad K)) = true
section
variable {P : Program} {w : World} {K : PySem.W.Frag} {mg : Str → Option Value} {base : Heap}
theorem Cal.mono {j k : Nat} {d : DfP} {ps : List Str} {sp : Sp} (c : Cal P w K mg base j d ps sp) (h : j ≤ k) : Cal P w K mg base k d ps sp := by
  obtain ⟨fd, F, b, kp⟩ := c
  exact ⟨fd, F.mono h, b, kp⟩
theorem Cal.imp {k : Nat} {d : DfP} {ps : List Str} {sp sp' : Sp} (c : Cal P w K mg base k d ps sp) (h : ∀ vs H Q E, sp' vs H Q E → sp vs H Q E) : Cal P w K mg base k d ps sp' := by
  obtain ⟨fd, F, b, kp⟩ := c
  exact ⟨fd, F.imp h, b, kp⟩
theorem Cal.of (W : W0 K mg base) (i : Nat) {d : DfP} {N ps : List Str} {k : Nat} {sp : Sp} (hd : dfs[i]? = some d) (S : FnScope N ps (defScope d.st)) (len : ∀ vs H Q E, sp vs H Q E → vs.length = ps.length)
    (bnd : ∀ (kV doc pm : Value) (an : Option Addr) (cdv ct : Value) (us : List Value), us.length = ps.length → bindArgs (PySem.W.fnOf d.nm d.ql (defArgs d.st) (defBody d.st) (defScope d.st) .none kV doc pm an cdv ct) ⟨us, []⟩ = pure (ps.zip us))
    (hbody : ∀ (cdv : Value) (A : Around) (outer : List Env) (s : Shared) (H : Hp) (vs : List V) (Q : VK) (E : XK), Room k (A.deeper (envOfC d.ql (defScope d.st) s.heap.objs.size (d.ad K) cdv)) → sp vs H Q E →
      ∃ t, PSs (cxOf CX0 P w K mg base N d.ql (defScope d.st) (d.ad K) cdv A outer s H E).nox (defBody d.st) t ∧ t { nx := fun _ H' => Q .non H', rt := Q } (start N vs) H) : Cal P w K mg base (k + 1) d ps sp := by
  obtain ⟨fd, F⟩ := W.fu d (List.mem_of_getElem? hd)
  exact ⟨fd, F.ok S len hbody, F.binds bnd, F.kp⟩
theorem W0.g (W : W0 K mg base) (i : Nat) {x : Str} (h : globs[i]? = some x) : mg x = some (.ref (He.ga K x)) := W.glo x (List.mem_of_getElem? h)
theorem W0.i (W : W0 K mg base) (i : Nat) {p : Str × Int} (h : intsG[i]? = some p) : ∃ t, mg p.1 = some (.int p.2 t) := W.ing p (List.mem_of_getElem? h)
theorem W0.s (W : W0 K mg base) (i : Nat) {p : Str × Str} (h : strsG[i]? = some p) : ∃ t, mg p.1 = some (.str p.2 t) := W.stg p (List.mem_of_getElem? h)
theorem W0.f (W : W0 K mg base) (i : Nat) {x : Str} (h : frees[i]? = some x) : mg x = none := W.fre x (List.mem_of_getElem? h)
end
section
variable {X : Cx} {d : DfP} {ps : List Str} {sp : Sp} {x : Str} {p pos : Pos} {e : Expr} {es : List Expr} {t : TA} {k : Nat}
theorem pe_cal (C : Cal X.prog X.w X.K X.mg X.base k d ps sp) (hr : Room k X.A) (hg : Gl X x) (hm : X.mg x = some (.ref (d.ad X.K))) (ha : PA X (e :: es) t) (hdb : (x == ("__debug__" : Str)) = false := by decide)
    (he : starEach (e :: es) X.env = (false, eval e X.env) :: starEach es X.env := by rfl) (hpl : (backTo pos (starEach es X.env)).any (·.1) = false := by rfl) : PE X (.Call (.Name x p) (e :: es) [] pos) (tCall sp [] E0 t) := by
  obtain ⟨fd, F, b, kp⟩ := C
  exact pe_call F hr hg hm kp b .nil pass0 ha hdb he hpl
/-- ints and texts of the module -/
theorem pe_gi {i : Int} (hg : Gl X x) (hm : ∃ t, X.mg x = some (.int i t)) (hd : (x == ("__debug__" : Str)) = false := by decide) : PE X (.Name x pos) (tC (.int i)) := by
  obtain ⟨tk, hm⟩ := hm
  exact pe_glob hg hm ⟨_, rfl⟩ hd
theorem pe_gs {i : Str} (hg : Gl X x) (hm : ∃ t, X.mg x = some (.str i t)) (hd : (x == ("__debug__" : Str)) = false := by decide) : PE X (.Name x pos) (tC (.str i)) := by
  obtain ⟨tk, hm⟩ := hm
  exact pe_glob hg hm ⟨_, rfl⟩ hd
end
theorem relTy {n : String} : RelV (.ty n) (.type n) := rfl
theorem relRef {a : Addr} : RelV (.ref a) (.ref a) := rfl
theorem bb_len : bootBuiltins "len" = some (.builtin "len") := by decide +kernel
theorem bb_isinstance : bootBuiltins "isinstance" = some (.builtin "isinstance") := by decide +kernel
theorem bb_tuple : bootBuiltins "tuple" = some (.type "tuple") := by decide +kernel
theorem bb_str : bootBuiltins "str" = some (.type "str") := by decide +kernel
theorem bb_int : bootBuiltins "int" = some (.type "int") := by decide +kernel
theorem bb_bool : bootBuiltins "bool" = some (.type "bool") := by decide +kernel
theorem bb_all : bootBuiltins "all" = some (.builtin "all") := by decide +kernel
theorem bb_any : bootBuiltins "any" = some (.builtin "any") := by decide +kernel
theorem bb_sorted : bootBuiltins "sorted" = some (.builtin "sorted") := by decide +kernel
theorem bb_max : bootBuiltins "max" = some (.builtin "max") := by decide +kernel
theorem bb_min : bootBuiltins "min" = some (.builtin "min") := by decide +kernel
theorem bb_list : bootBuiltins "list" = some (.type "list") := by decide +kernel
theorem bb_set : bootBuiltins "set" = some (.type "set") := by decide +kernel
theorem bb_dict : bootBuiltins "dict" = some (.type "dict") := by decide +kernel
theorem bb_sum : bootBuiltins "sum" = some (.builtin "sum") := by decide +kernel
theorem bb_next : bootBuiltins "next" = some (.builtin "next") := by decide +kernel
theorem bb_abs : bootBuiltins "abs" = some (.builtin "abs") := by decide +kernel
section
variable {K : PySem.W.Frag} {σ : L2.St} {H H' : Hp} {ta tb te : TE} {d : PyData} {tr : TA}
/-- the four classes asked -/
inductive TyN | bool | int | str | tuple
def TyN.nm : TyN → String
  | .bool => "bool"
  | .int => "int"
  | .str => "str"
  | .tuple => "tuple"
/-- isinstance(x, T) of data, T a built-in class -/
def isiD : TyN → PyData → Bool
  | .bool, .bool _ => true
  | .int, .bool _ => true
  | .int, .int _ => true
  | .str, .str _ => true
  | .tuple, .tuple _ => true
  | _, _ => false
theorem tyx_rp {v : V} (T : TyN) (h : Rp K H v d) : ∃ t, TyX K H v t ∧ PySem.W.kitOne K t (.type T.nm) = some (isiD T d) := by
  have tp : PySem.W.kitOne K (.type "tuple") (.type T.nm) = some (isiD T (.tuple [])) := by
    cases T with
    | bool => exact kit_ty (r := false) (by decide +kernel)
    | int => exact kit_ty (r := false) (by decide +kernel)
    | str => exact kit_ty (r := false) (by decide +kernel)
    | tuple => exact kit_ty (r := true) (by decide +kernel)
  cases h with
  | non =>
    refine ⟨.type "NoneType", .base .non, ?_⟩
    cases T with
    | bool => exact kit_ty (r := false) (by decide +kernel)
    | int => exact kit_ty (r := false) (by decide +kernel)
    | str => exact kit_ty (r := false) (by decide +kernel)
    | tuple => exact kit_ty (r := false) (by decide +kernel)
  | bl b =>
    refine ⟨.type "bool", .base (.bl b), ?_⟩
    cases T with
    | bool => exact kit_ty (r := true) (by decide +kernel)
    | int => exact kit_ty (r := true) (by decide +kernel)
    | str => exact kit_ty (r := false) (by decide +kernel)
    | tuple => exact kit_ty (r := false) (by decide +kernel)
  | int i =>
    refine ⟨.type "int", .base (.int i), ?_⟩
    cases T with
    | bool => exact kit_ty (r := false) (by decide +kernel)
    | int => exact kit_ty (r := true) (by decide +kernel)
    | str => exact kit_ty (r := false) (by decide +kernel)
    | tuple => exact kit_ty (r := false) (by decide +kernel)
  | str i =>
    refine ⟨.type "str", .base (.str i), ?_⟩
    cases T with
    | bool => exact kit_ty (r := false) (by decide +kernel)
    | int => exact kit_ty (r := false) (by decide +kernel)
    | str => exact kit_ty (r := true) (by decide +kernel)
    | tuple => exact kit_ty (r := false) (by decide +kernel)
  | tup hs ha =>
    refine ⟨.type "tuple", ?_, by cases T <;> exact tp⟩
    rcases hs with (h | ⟨o, h⟩) | ⟨o, its, n, h1, h2, _⟩
    · exact .base (.tup h)
    · exact .fTuple h
    · exact .kTuple h1 h2
/-- a built-in class as a value -/
theorem ev_isi (T : TyN) {b : Bool} (h1 : Ed K ta σ H d) (h2 : Ev tb σ H (.ty T.nm)) (e : isiD T d = b) : Ev (tCB (rIsi K) (tCons ta (tCons tb tNil))) σ H (.bl b) := fun H1 e1 Q q =>
  h1 H1 e1 _ fun v H2 e2 r => h2 H2 (e1.trans e2) _ fun H3 e3 => by
    obtain ⟨t, ht, hk⟩ := tyx_rp T (r.ex e3)
    refine ⟨v, .ty T.nm, t, .type T.nm, isiD T d, rfl, .ty _, ht, hk, ?_⟩
    rw [e]
    exact q H3 (e2.trans e3)
end
end PR
end
section
set_option Elab.async false
set_option linter.all false
set_option maxRecDepth 100000
set_option maxHeartbeats 4000000
/-! sorted of lists, tuples, dicts with tuple keys: data of any length. -/
namespace PR
open PySem PySem.Spec PyProof.Rows L2 Evl PySem.W
section
variable {prog : Program} {w : World} {A : Around} {E : Value → Shared → Prop} {s : Shared}
/-- sorted(r), r told by what collecting it gives -/
theorem sorted_by {β : Type} {enc : β → PyData} {r : Addr} {bs : List β} {RR : Value → β → Prop} {Q : Value → Shared → Prop}
    (col : ∀ (R1 : List Value → Shared → Prop) (E1 : Value → Shared → Prop), (∀ h1 tk us, (∀ b o, s.heap.get? b = some o → h1.get? b = some o) → EachIs (fun v b => ∃ as, Reads h1 v (enc b) as) us bs → EachIs RR us bs → R1 us { s with heap := h1, toks := tk }) → wpAny (model prog w) A.in1 (collect (.ref r)) R1 E1 s)
    (hal : AllAlike (bs.map enc)) (hk : Sortable (bs.map enc)) (hL : bs.length ≤ sizeLine) (hu : ∀ b, b ∈ bs → A.units + 2 + (enc b).depth < cLine)
    (fin : ∀ (h1 h2 : Heap) tk out e, (∀ b o, s.heap.get? b = some o → h1.get? b = some o) → (∀ b o, h1.get? b = some o → h2.get? b = some o) → h2.get? h1.objs.size = some (seqObj "list" (List.toArray out) e) → out.length = bs.length →
      EachIs RR out (bs.mergeSort (dataLe false enc)) → Q (.ref h1.objs.size) { s with heap := h2, toks := tk }) :
    wpAny (model prog w) A (call (.builtin "sorted") [.ref r]) Q E s := by
  refine Calls.call_function_entry kind_sorted plain_sorted entry_sorted (args_sorted1 _) ?_
  unfold Builtin.«sorted»
  refine wpAny_bind (m := checkCount "sorted" 1 1 _) (wpAny_pure ?_)
  refine wpAny_bind (col _ _ fun h1 tk us kp er eR => ?_)
  have hlen : us.length = bs.length := er.length
  refine wpAny_bind (wpAny_newList ?_ (by rw [hlen]; exact hL))
  have hoL : (h1.push (seqObj "list" us.toArray 0)).get? h1.objs.size = some (seqObj "list" us.toArray 0) := Heap.get?_push_size _ rfl
  show wpAny _ _ _ _ _ { s with heap := h1.push (seqObj "list" us.toArray 0), toks := tk }
  generalize hh2 : h1.push (seqObj "list" us.toArray 0) = h2 at hoL
  have k12 : ∀ b o, h1.get? b = some o → h2.get? b = some o := fun b o e => by rw [← hh2]; exact Heap.get?_push_of_some _ e
  have ks : ∀ b o, h1.get? b = some o → (sortingHeap h2 h1.objs.size us).get? b = some o := fun b o e => sortingHeap_old (Nat.ne_of_lt (Heap.lt_size e)) (k12 b o e)
  have er' : EachIs (fun v b => ∃ as, Reads (sortingHeap h2 h1.objs.size us) v (enc b) as) us bs := er.mono fun _ _ ⟨as, r⟩ => ⟨as, PyProof.Rows.Reads.keeps ks r⟩
  refine wpAny_bind (wpAny_holding (wpAny_call_entry slot_list_sort ⟨_, hoL, rfl⟩ entry_list_sort
    (list_sort_vals (κ := dataKind (sortingHeap h2 h1.objs.size us) (bs.map enc)) (s := { s with heap := h2, toks := tk }) hoL
      (SortsAt.data (s := { s with heap := sortingHeap h2 h1.objs.size us, toks := tk }) (each_map (R := fun v d => ∃ as, Reads (sortingHeap h2 h1.objs.size us) v d as) enc er') hal hk (bound_map hu))
      (by rw [hlen]; exact hL) ⟨_, rfl, ?_⟩) (args_list_sort _)))
  obtain ⟨e, he⟩ := sortedHeap_at (vs := us) (out := (List.toArray (sortVals (dataKind (sortingHeap h2 h1.objs.size us) (bs.map enc)) false us us))) hoL
  refine wpAny_pure ⟨_, rfl, fin h1 _ tk _ e kp (fun b o hb => ?_) he (by rw [sortVals_length false rfl]; exact hlen) (sortVals_data false eR er' hal)⟩
  rw [sortedHeap_old (Nat.ne_of_lt (Heap.lt_size hb)) (Heap.lt_size (k12 b o hb))]
  exact k12 b o hb
end
/-- what may be sorted -/
structure SortOk (ds : List PyData) : Prop where
  al : AllAlike ds
  so : Sortable ds
  len : ds.length ≤ 100000
  dep : ∀ d ∈ ds, d.depth ≤ 40
def sortD (ds : List PyData) : List PyData := ds.mergeSort (dataLe false id)
theorem Rps.each {X : Cx} {pins : List (Addr × Obj)} {σ : L2.St} {H : Hp} {s : Shared} (I : Inv X pins σ H s) : ∀ {vs : List V} {us : List Value} {ds : List PyData}, Rps X.K H vs ds → Vals vs us →
    EachIs (fun v b => ∃ as, Reads s.heap v b as) us ds ∧ EachIs (fun v b => ∃ x, RelV x v ∧ Rp X.K H x b) us ds
  | _, _, _, .nil, .nil => ⟨.nil, .nil⟩
  | _, _, _, .cons r t, .cons q u => by
    obtain ⟨h1, h2⟩ := Rps.each I t u
    obtain ⟨as, hr⟩ := Dp.reads I _ _ _ (Rp.dp _ _ r) q
    exact ⟨.cons ⟨as, hr⟩ h1, .cons ⟨_, q, r⟩ h2⟩
theorem each_rps {K : PySem.W.Frag} {H : Hp} : ∀ {us : List Value} {ds : List PyData}, EachIs (fun v b => ∃ x, RelV x v ∧ Rp K H x b) us ds → ∃ vs, Vals vs us ∧ Rps K H vs ds
  | _, _, .nil => ⟨[], .nil, .nil⟩
  | _, _, .cons ⟨x, q, r⟩ t => by
    obtain ⟨vs, h1, h2⟩ := each_rps t
    exact ⟨x :: vs, .cons q h1, .cons r h2⟩
section
variable {X : Cx}
def rSortD (K : PySem.W.Frag) : List V → Hp → VK → Prop := fun xs H Q => ∃ p vs ds, xs = [.ref p] ∧ ((SqL K H p vs ∨ SqT K H p vs) ∧ Rps K H vs ds ∨ ∃ kvs, Rd H p (.dT kvs) ∧ ∀ bs, IsKeys H kvs bs → Rps K H (bs.map V.ref) ds) ∧ SortOk ds ∧
  ∀ q ws, H q = none → Rps K H ws (sortD ds) → Q (.ref q) (upd H q (.lst ws))
theorem cr_sortedD (hc : X.calm = true) (hu : X.A.units + 64 < cLine) : CallR X (.builtin "sorted") (rSortD X.K) := by
  intro pins s σ H xs us Q I r h
  obtain ⟨p, vs, ds, rfl, hsrc, ok, q⟩ := h
  obtain ⟨u, rfl, rx⟩ := r.one
  cases rx
  have hL : ds.length ≤ sizeLine := sz_of ok.len
  have fin : ∀ (h1 h2 : Heap) (tk : Nat) (out : List Value) (e : Nat), (∀ b o, s.heap.get? b = some o → h1.get? b = some o) → (∀ b o, h1.get? b = some o → h2.get? b = some o) → h2.get? h1.objs.size = some (seqObj "list" (List.toArray out) e) → out.length = ds.length →
      EachIs (fun v b => ∃ x, RelV x v ∧ Rp X.K H x b) out (ds.mergeSort (dataLe false id)) → EP X pins σ Q (.ref h1.objs.size) { s with heap := h2, toks := tk } := fun h1 h2 tk out e k1 k2 he hl er => by
    obtain ⟨ws, v1, v2⟩ := each_rps er
    have I1 : Inv X pins σ H { s with heap := h1 } := I.kept (t' := s.toks) k1
    have hn : H h1.objs.size = none := I1.hok.fresh (Nat.le_refl _)
    have hz : ws.length ≤ sizeLine := by rw [v1.length, hl]; exact hL
    exact ⟨.ref h1.objs.size, _, I1.laid (t' := tk) (o := .lst ws) k2 (Nat.le_refl _) ⟨hz, out, e, v1, he⟩, rfl, q _ ws hn v2⟩
  refine sorted_by (enc := id) (bs := ds) (RR := fun v b => ∃ x, RelV x v ∧ Rp X.K H x b) (fun R1 E1 kk => ?_) (by rw [List.map_id]; exact ok.al) (by rw [List.map_id]; exact ok.so) hL (fun b hb => by have := ok.dep b hb; show X.A.units + 2 + b.depth < cLine; omega) fin
  rcases hsrc with ⟨hsq, rs⟩ | ⟨kvs, hd, rs⟩
  · have seq : ∀ (T : String) (o : Obj) (its : List Value) (n : Nat), (T = "list" ∨ T = "tuple") → s.heap.get? p = some o → o.cls = .type T → o.data = .seq its.toArray n → Vals vs its → vs.length ≤ sizeLine → wpAny (model X.prog X.w) X.A.in1 (collect (.ref p)) R1 E1 s := fun T o its n hT ho hcl hd rv hz => by
      refine wpAny_collect_seq p hT ho hcl hd (fun h1 k1 => ?_) (by rw [List.size_toArray, ← rv.length]; exact hz)
      have I1 : Inv X pins σ H { s with heap := h1 } := I.kept (t' := s.toks) k1
      obtain ⟨e1, e2⟩ := Rps.each I1 rs rv
      exact kk h1 s.toks _ k1 e1 e2
    rcases hsq with hsq | hsq
    · obtain ⟨its, rv, pl, hz⟩ := I.list hsq
      obtain ⟨o, ho, hcl, n, hdt⟩ := pl.isList
      exact seq "list" o its n (.inl rfl) ho hcl hdt rv hz
    · obtain ⟨its, rv, pl, hz⟩ := I.tuple hsq
      obtain ⟨o, ho, hcl, n, hdt⟩ := pl
      exact seq "tuple" o its n (.inr rfl) ho hcl hdt rv hz
  · obtain ⟨z, lo, ks, pr, o, es, ep, ho, hx, hdt, he, hn⟩ := (show ObjOk X.prog X.w H s.heap p (.dT kvs) from hd.ok I.hok)
    have l1 : es.size = ks.length := size_of_entries he
    have l2 : kvs.length = ks.length := Paired.length pr
    refine PySem.W.kdu_collect (kdl_raw (es := es) (ep := ep) lo hx hdt) (I.ok.hd hc) ho (by rw [l1, ← l2]; exact z) fun h1 tk acc k1 hacc => ?_
    have I1 : Inv X pins σ H { s with heap := h1, toks := tk } := I.kept k1
    have hv : Vals ((ks.map fun x => x.2.1).map V.ref) acc.toList := by
      refine vals_of_at (by simp [hacc.1, l1]) fun j x w' e1 e2 => ?_
      obtain ⟨en, e3, rfl⟩ := hacc.2 j w' (by rw [← Array.getElem?_toList]; exact e2)
      rw [← Array.getElem?_toList, he, List.getElem?_map] at e3
      rw [List.getElem?_map, List.getElem?_map] at e1
      cases e4 : ks[j]? with
      | none => rw [e4] at e3; cases e3
      | some y =>
        rw [e4] at e1 e3
        cases e1
        cases e3
        rfl
    obtain ⟨e1, e2⟩ := Rps.each I1 (rs _ (isKeys_of pr)) hv
    exact kk h1 tk _ k1 e1 e2
end
section
variable {K : PySem.W.Frag} {σ : L2.St} {H : Hp} {ta : TE} {ds : List PyData}
theorem edL_sortT (h : Ed K ta σ H (.tuple ds)) (ok : SortOk ds) : EdL K (tCB (rSortD K) (tCons ta tNil)) σ H (sortD ds) := fun H1 e Q q =>
  h H1 e _ fun v H2 e2 r => by
    obtain ⟨a, xs, rfl, hs, rs⟩ := rp_tup r
    exact ⟨a, xs, ds, rfl, .inl ⟨.inr hs, rs⟩, ok, fun p ws hp r2 => q p ws _ (fresh_back e2 hp) (e2.trans (Ex.new hp)) upd_same (r2.ex (Ex.new hp))⟩
theorem edL_sortL (h : EdL K ta σ H ds) (ok : SortOk ds) : EdL K (tCB (rSortD K) (tCons ta tNil)) σ H (sortD ds) := fun H1 e Q q =>
  h H1 e _ fun a xs H2 _ e2 hl rs => ⟨a, xs, ds, rfl, .inl ⟨.inl (sq_of hl), rs⟩, ok, fun p ws hp r2 => q p ws _ (fresh_back e2 hp) (e2.trans (Ex.new hp)) upd_same (r2.ex (Ex.new hp))⟩
theorem edL_sortLs {p : Addr} {vs : List V} (h : Ev ta σ H (.ref p)) (hp : SqL K H p vs) (rs : Rps K H vs ds) (ok : SortOk ds) : EdL K (tCB (rSortD K) (tCons ta tNil)) σ H (sortD ds) := fun H1 e Q q =>
  h H1 e _ fun H2 e2 => ⟨p, vs, ds, rfl, .inl ⟨.inl (ex_l (e.trans e2) hp), rs.ex (e.trans e2)⟩, ok, fun p ws hp r2 => q p ws _ (fresh_back e2 hp) (e2.trans (Ex.new hp)) upd_same (r2.ex (Ex.new hp))⟩
end
/-! ### texts, ints -/
theorem sortOk_ints {ns : List Int} (h : ns.length ≤ 100000) : SortOk (ns.map PyData.int) where
  al := fun d hd e he => by
    obtain ⟨_, _, rfl⟩ := List.mem_map.mp hd
    obtain ⟨_, _, rfl⟩ := List.mem_map.mp he
    rfl
  so := .inr fun d hd => by
    obtain ⟨_, _, rfl⟩ := List.mem_map.mp hd
    exact ⟨(fun z => nomatch z), fun _ z => nomatch z⟩
  len := by rw [List.length_map]; exact h
  dep := fun d hd => by
    obtain ⟨_, _, rfl⟩ := List.mem_map.mp hd
    simp [PyData.depth]
theorem sortOk_strs {ns : List Str} (h : ns.length ≤ 100000) : SortOk (ns.map PyData.str) where
  al := fun d hd e he => by
    obtain ⟨_, _, rfl⟩ := List.mem_map.mp hd
    obtain ⟨_, _, rfl⟩ := List.mem_map.mp he
    rfl
  so := .inr fun d hd => by
    obtain ⟨_, _, rfl⟩ := List.mem_map.mp hd
    exact ⟨(fun z => nomatch z), fun _ z => nomatch z⟩
  len := by rw [List.length_map]; exact h
  dep := fun d hd => by
    obtain ⟨_, _, rfl⟩ := List.mem_map.mp hd
    simp [PyData.depth]
def sortI (ns : List Int) : List Int := ns.mergeSort fun a b => decide (a ≤ b)
def sortS (ns : List Str) : List Str := ns.mergeSort fun a b => decide (a.cps.toList ≤ b.cps.toList)
theorem sortD_ints (ns : List Int) : sortD (ns.map PyData.int) = (sortI ns).map PyData.int := by
  unfold sortD sortI
  rw [← dataLe_int (fun b : Int => b)]
  refine (List.map_mergeSort (f := PyData.int) fun a _ b _ => ?_).symm
  rfl
theorem sortD_strs (ns : List Str) : sortD (ns.map PyData.str) = (sortS ns).map PyData.str := by
  unfold sortD sortS
  rw [← dataLe_str (fun b : Str => b)]
  refine (List.map_mergeSort (f := PyData.str) fun a _ b _ => ?_).symm
  rfl
end PR
end
section
set_option Elab.async false
set_option linter.all false
set_option maxRecDepth 100000
set_option maxHeartbeats 4000000
/-! Instances with slots: properties, methods, making, own len and in; ^=; the index of a tuple; stores into dicts as targets. -/
namespace PR
open PySem PySem.Spec PyProof.Rows L2 Evl
section
variable {P : Program} {w : World} {K : PySem.W.Frag} {mg : Str → Option Value} {base : Heap}
theorem Cal.fnR {k : Nat} {d : DfP} {ps : List Str} {sp : Sp} (c : Cal P w K mg base k d ps sp) : FnR P w K mg base CX0 k (d.ad K) sp := by
  obtain ⟨fd, F, b, kp⟩ := c
  exact (F.raw b .nil).imp fun vs H Q E h => by
    rw [List.append_nil]
    exact h
end
section
variable {X : Cx} {d : DfP} {ps : List Str} {sp : Sp} {x c m f : Str} {p pos apos : Pos} {e o : Expr} {es : List Expr} {t : TA} {to te : TE} {k : Nat}
theorem pe_prop (he : PE X e te) (W : W0 X.K X.mg X.base) (i : Nat) (h : propsO[i]? = some (("Order" : Str), f)) (C : Cal X.prog X.w X.K X.mg X.base k d ps sp) (hr : Room (k + 1) X.A)
    (hd : d.ad X.K = getterOf X.K (He.ma X.K (He.ga X.K "Order") f) := by rfl) (hb : attributeBase e f X.env (eval e X.env) = eval e X.env := by rfl) : PE X (.Attribute e f pos) (SlX.tPropSl (He.ga X.K "Order") sp E0 te) := by
  obtain ⟨p1, p2, p3, p4⟩ := W.prp _ (List.mem_of_getElem? h)
  refine SlX.pe_propSl (g := d.ad X.K) he (W.scl "Order" (by simp [clsO])) p1 p2 p3 ?_ C.fnR hr (fun _ _ _ _ z => z) hb
  rw [hd]
  exact p4
theorem pe_methO {pl : Sem Bool} (he : PE X o to) (W : W0 X.K X.mg X.base) (i j : Nat) (h : methsO[i]? = some (c, m)) (hc : clsO[j]? = some c) (C : Cal X.prog X.w X.K X.mg X.base k d ps sp) (hr : Room k X.A) (ha : PA X (e :: es) t)
    (hd : d.ad X.K = He.ma X.K (He.ga X.K c) m := by rfl)
    (hst : starEach (e :: es) X.env = (false, eval e X.env) :: starEach es X.env := by rfl) (hpl : (backTo pos (starEach es X.env)).any (·.1) = false := by rfl)
    (ht : eval (.Call (.Attribute o m apos) (e :: es) [] pos) X.env = (do
      let ov ← eval o X.env
      standAt apos.atName
      let (f, first) ← holding [ov] (getMethod ov m pl)
      callWith pos f first (backTo pos (starEach (e :: es) X.env)) (backToKw pos (keywordEach [] X.env))) := by rfl) :
    PE X (.Call (.Attribute o m apos) (e :: es) [] pos) (SlX.tMethSl (He.ga X.K c) sp E0 to t) :=
  SlX.pe_methSl he (W.scl c (List.mem_of_getElem? hc)) (W.met _ (List.mem_of_getElem? h)) (hd ▸ C.fnR) hr pass0 ha hst hpl ht
theorem pe_methO0 {pl : Sem Bool} (he : PE X o to) (W : W0 X.K X.mg X.base) (i j : Nat) (h : methsO[i]? = some (c, m)) (hc : clsO[j]? = some c) (C : Cal X.prog X.w X.K X.mg X.base k d ps sp) (hr : Room k X.A)
    (hd : d.ad X.K = He.ma X.K (He.ga X.K c) m := by rfl)
    (ht : eval (.Call (.Attribute o m apos) [] [] pos) X.env = (do
      let ov ← eval o X.env
      standAt apos.atName
      let (f, first) ← holding [ov] (getMethod ov m pl)
      callWith pos f first (backTo pos (starEach [] X.env)) (backToKw pos (keywordEach [] X.env))) := by rfl) :
    PE X (.Call (.Attribute o m apos) [] [] pos) (SlX.tMethSl (He.ga X.K c) sp E0 to tNil) :=
  SlX.pe_methSl0 he (W.scl c (List.mem_of_getElem? hc)) (W.met _ (List.mem_of_getElem? h)) (hd ▸ C.fnR) hr pass0 ht
theorem pe_new (C : Cal X.prog X.w X.K X.mg X.base k d ps sp) (W : W0 X.K X.mg X.base) (j : Nat) (hc : clsO[j]? = some c) (hr : Room (k + 1) X.A) (hg : Gl X c) (hm : X.mg c = some (.ref (He.ga X.K c))) (ha : PA X (e :: es) t)
    (hd : d.ad X.K = He.ma X.K (He.ga X.K c) "__init__" := by rfl) (hdb : (c == ("__debug__" : Str)) = false := by decide) (he : starEach (e :: es) X.env = (false, eval e X.env) :: starEach es X.env := by rfl)
    (hpl : (backTo pos (starEach es X.env)).any (·.1) = false := by rfl) : PE X (.Call (.Name c p) (e :: es) [] pos) (tMake (He.ga X.K c) sp [] E0 t) := by
  obtain ⟨fd, F, b, kp⟩ := C
  rw [hd] at F
  exact pe_make (W.mkr c (List.mem_of_getElem? hc)) F hr hg hm b .nil pass0 ha hdb he hpl
/-- len(o) by an own __len__ -/
def rLenO (C : Addr) (sp : Sp) : List V → Hp → VK → Prop := fun xs H Q => ∃ a dx vs, xs = [.ref a] ∧ SlX.Slt H a C dx vs ∧ sp [.ref a] H (fun v H' => ∃ i : Int, v = .int i ∧ 0 ≤ i ∧ i < 2 ^ 62 ∧ Q (.int i) H') E0
theorem call_lenO (W : W0 X.K X.mg X.base) (i : Nat) (h : methsO[i]? = some (("Order" : Str), ("__len__" : Str))) (C : Cal X.prog X.w X.K X.mg X.base k d ps sp) (hr : Room (k + 1) X.A) (hd : d.ad X.K = He.ma X.K (He.ga X.K "Order") "__len__" := by rfl) :
    CallR X (.builtin "len") (rLenO (He.ga X.K "Order") sp) := by
  intro pins s σ H xs us Q I r hh
  obtain ⟨a, dx, vs, rfl, hsl, q⟩ := hh
  obtain ⟨u, rfl, ru⟩ := r.one
  cases (show u = Value.ref a from ru)
  obtain ⟨sl, od, _, J, _⟩ := SlX.slt_inst I hsl
  have M := W.met _ (List.mem_of_getElem? h)
  obtain ⟨m, F⟩ := I.fr
  refine PySem.W.len_K F I.ok.mod.kin J M.at_ M.fn ?_
  have G : FnR X.prog X.w X.K X.mg X.base CX0 k (He.ma X.K (He.ga X.K "Order") "__len__") sp := hd ▸ C.fnR
  refine wpAny_mono (wpAny_call (SlX.run_at (us := [.ref a]) (ws := [.ref a]) G hr.in1 I.env0.in1 pass0 I (.cons rfl .nil) q)) (fun v s' z => ?_) fun _ _ x => x
  obtain ⟨z', H', I', rz, i, ei, h0, h1, qz⟩ := z
  subst ei
  obtain ⟨t, rfl⟩ := rz
  exact ⟨⟨h0, by omega⟩, .int i, H', I'.tok _, ⟨_, rfl⟩, qz⟩
/-- x not in o by an own __contains__ -/
def rNotInO (C : Addr) (sp : Sp) : R2 := fun x y H Q => ∃ a dx vs, y = .ref a ∧ SlX.Slt H a C dx vs ∧ sp [.ref a, x] H (fun v H' => ∃ b : Bool, v = .bl b ∧ Q (.bl (!b)) H') E0
theorem op_notInO (W : W0 X.K X.mg X.base) (i : Nat) (h : methsO[i]? = some (("Order" : Str), ("__contains__" : Str))) (C : Cal X.prog X.w X.K X.mg X.base k d ps sp) (hr : Room k X.A) (hd : d.ad X.K = He.ma X.K (He.ga X.K "Order") "__contains__" := by rfl) :
    OpR X (compareOp .NotIn) (rNotInO (He.ga X.K "Order") sp) := by
  intro pins s σ H x y v u Q I rx ry hh
  obtain ⟨a, dx, vs, rfl, hsl, q⟩ := hh
  cases (show u = Value.ref a from ry)
  obtain ⟨sl, od, _, J, _⟩ := SlX.slt_inst I hsl
  have M := W.met _ (List.mem_of_getElem? h)
  obtain ⟨m, F⟩ := I.fr
  have G : FnR X.prog X.w X.K X.mg X.base CX0 k (He.ma X.K (He.ga X.K "Order") "__contains__") sp := hd ▸ C.fnR
  refine PySem.W.notIn_K F I.ok.mod.kin J M.at_ M.fn ?_
  refine wpAny_mono (wpAny_call (run_fnR (us := [.ref a, v]) (vs := [.ref a, x]) G hr pass0 I (.cons rfl (.cons rx .nil)) q)) (fun r s' z => ?_) fun _ _ x => x
  obtain ⟨z', H', I', rz, b, eb, qz⟩ := z
  subst eb
  cases rz
  exact wpAny_truthy_bool ⟨.bl _, H', I', rfl, qz⟩
/-- d[k] = v as a target -/
theorem set_dk (hu : X.A.units + 1 < cLine) : PSet X (fun o i v H Q => ∃ a H4, o = .ref a ∧ DPut H a i v H4 ∧ Q H4) := by
  intro pins s σ H o i v ov iv u Q I ro ri rv h
  obtain ⟨a, H4, rfl, g, q⟩ := h
  cases ro
  exact d_setItem hu I g ri rv fun s' I' => ⟨H4, I', q⟩
/-- x ^= y -/
theorem ip_xor : PIp X .BitXor (ipI Builtin.bitXor) := fun pins s σ H x y v u Q I rx ry h => iop_xor pins s σ H x y v u Q I rx ry h
end
end PR
end
section
set_option Elab.async false
set_option linter.all false
set_option maxRecDepth 100000
set_option maxHeartbeats 4000000
/-! The rules with the written part named outright (within a comprehension its block's own is not seen through). -/
namespace PR
open PySem PySem.Spec PyProof.Rows L2 Evl
section
variable {X : Cx}
theorem k_ixT (K : PySem.W.Frag) (h : X.K = K := by rfl) : IxR X (rIxT K) := h ▸ ix_tup
theorem k_ixL (K : PySem.W.Frag) (h : X.K = K := by rfl) : IxR X (rIxL K) := h ▸ ix_list
theorem k_len (K : PySem.W.Frag) (h : X.K = K := by rfl) : CallR X (.builtin "len") (rLenS K) := h ▸ call_len_seq
theorem k_tuple (K : PySem.W.Frag) (h : X.K = K := by rfl) : CallR X (.type "tuple") (rTupS K) := h ▸ call_tuple_of
theorem k_list (K : PySem.W.Frag) (h : X.K = K := by rfl) : CallR X (.type "list") (rListS K) := h ▸ call_list_of
theorem k_isi (K : PySem.W.Frag) (h : X.K = K := by rfl) : CallR X (.builtin "isinstance") (rIsi K) := h ▸ call_isi
theorem k_all (K : PySem.W.Frag) (hc : X.calm = true) (h : X.K = K := by rfl) : CallR X (.builtin "all") (rAll K) := h ▸ cr_all hc
theorem k_any (K : PySem.W.Frag) (hc : X.calm = true) (h : X.K = K := by rfl) : CallR X (.builtin "any") (rAny K) := h ▸ cr_any hc
theorem k_sum (K : PySem.W.Frag) (hc : X.calm = true) (h : X.K = K := by rfl) : CallR X (.builtin "sum") (rSum K) := h ▸ cr_sum hc
theorem k_sort (K : PySem.W.Frag) (hc : X.calm = true) (hu : X.A.units + 64 < cLine) (h : X.K = K := by rfl) : CallR X (.builtin "sorted") (rSortD K) := h ▸ cr_sortedD hc hu
theorem k_eqD (K : PySem.W.Frag) (hu : X.A.units + 64 < cLine) (h : X.K = K := by rfl) : OpR X (compareOp .Eq) (rEqD K) := h ▸ op_eqD hu
theorem k_neD (K : PySem.W.Frag) (hu : X.A.units + 64 < cLine) (h : X.K = K := by rfl) : OpR X (compareOp .NotEq) (rNeD K) := h ▸ op_neD hu
theorem k_ltT (K : PySem.W.Frag) (hu : X.A.units < cLine) (h : X.K = K := by rfl) : OpR X (compareOp .Lt) (rLtT K) := h ▸ op_ltT hu
theorem k_in (K : PySem.W.Frag) (h : X.K = K := by rfl) : OpR X (compareOp .In) (rIn K false) := h ▸ op_in_seq
theorem k_notIn (K : PySem.W.Frag) (h : X.K = K := by rfl) : OpR X (compareOp .NotIn) (rIn K true) := h ▸ op_notIn_seq
theorem k_slT (K : PySem.W.Frag) (h : X.K = K := by rfl) : SlR X (rSlA K) := h ▸ sl_tupA
theorem k_slL (K : PySem.W.Frag) (h : X.K = K := by rfl) : SlR X (rSlL K) := h ▸ sl_list
theorem k_catT (K : PySem.W.Frag) (h : X.K = K := by rfl) : OpR X (binaryOp .Add) (rCatA K) := h ▸ op_catA
variable {e o tg : Expr} {es : List Expr} {f name : Str} {pos apos cpos : Pos} {te to : TE} {t ta : TA}
theorem k_sl (K : PySem.W.Frag) (he : PE X e te) (h : X.K = K := by rfl) (hb : attributeBase e f X.env (eval e X.env) = eval e X.env := by rfl) : PE X (.Attribute e f pos) (SlX.tSl K te f) := h ▸ SlX.pe_sl he hb
theorem k_bm (K : PySem.W.Frag) {T id : String} {r : V → List V → Hp → VK → Prop} (pa : PlainAttrs T) (slot : Slot T name id) (hty : typeOf (.builtin id) = pure (.type "method_descriptor")) (hm : MtR X id r) (ho : PE X o to) (ha : PA X (e :: es) t)
    (h : X.K = K := by rfl) (hbase : attributeBase o name X.env (eval o X.env) = eval o X.env := by rfl)
    (hfew : ((backTo cpos (starEach (e :: es) X.env)).all (fun x => !x.1) && (backToKw cpos (keywordEach [] X.env)).all (fun x => x.1.isSome)
      && decide ((e :: es).length + ([] : List Keyword).length + (if ([] : List Keyword).isEmpty then 0 else 1) < 30)) = true := by rfl)
    (hline : (apos.endLine == cpos.line) = true := by rfl) (hs : starEach (e :: es) X.env = (false, eval e X.env) :: starEach es X.env := by rfl) (hplain : (backTo cpos (starEach es X.env)).any (·.1) = false := by rfl) :
    PE X (.Call (.Attribute o name apos) (e :: es) [] cpos) (tBM K T r to t) := h ▸ pe_bm pa slot hty hm ho ha hbase hfew hline hs hplain
theorem k_index (K : PySem.W.Frag) (h : X.K = K := by rfl) : MtR X "list.index" (rIndex K) := h ▸ mt_index
theorem k_pi_tup (K : PySem.W.Frag) (hl : PE X e te) (h : X.K = K := by rfl) : PI X tg e (iTup K te) := h ▸ pi_tup hl
theorem k_pi_list (K : PySem.W.Frag) (hl : PE X e te) (h : X.K = K := by rfl) : PI X tg e (iList K te) := h ▸ pi_list hl
end
end PR
end
section
set_option Elab.async false
set_option linter.all false
set_option maxRecDepth 100000
set_option maxHeartbeats 4000000
/-! Tuples of ints known to the object (no dict of their own): made, asked for a place. -/
namespace PR
open PySem PySem.Spec PyProof.Rows L2 Evl
/-- a tuple of these ints, known to the object -/
def XT (H : Hp) (v : V) (ns : List Int) : Prop := ∃ a o, v = .ref a ∧ H a = some (.frz o (.tup (ns.map V.int))) ∧ o.cls = .type "tuple" ∧ o.dict = none
section
variable {K : PySem.W.Frag} {H H' : Hp} {v : V} {ns : List Int}
theorem XT.rp (h : XT H v ns) : Rp K H v (.tuple (ns.map PyData.int)) := by
  obtain ⟨a, o, rfl, ha, _⟩ := h
  exact .tup (.inl (.inr ⟨o, ha⟩)) (rps_ints ns)
theorem XT.up (h : XT H v ns) (e : TEx H H') : XT H' v ns := by
  obtain ⟨a, o, rfl, ha, hc, hd⟩ := h
  exact ⟨a, o, rfl, e.2 _ _ _ ha, hc, hd⟩
theorem XT.ex (h : XT H v ns) (e : Ex H H') : XT H' v ns := h.up (exT e)
end
section
variable {X : Cx} {e o : Expr} {es : List Expr} {te ta to : TE} {t : TA} {pos apos cpos : Pos}
theorem laid_x {pins : List (Addr × Obj)} {σ : L2.St} {H : Hp} {s : Shared} {xs : List V} {us : List Value} (I : Inv X pins σ H s) (r : Vals xs us) (z : xs.length ≤ sizeLine) (t' : Nat) :
    Inv X pins σ (upd H s.heap.objs.size (.frz { cls := .type "tuple", data := .seq us.toArray } (.tup xs))) { s with heap := s.heap.push { cls := .type "tuple", data := .seq us.toArray }, toks := t' } := by
  refine I.laid (fun b u e => Heap.get?_push_of_some _ e) (Nat.le_refl _) ?_
  exact ⟨Heap.get?_push_size _ rfl, z, us, r, ⟨_, Heap.get?_push_size _ rfl, rfl, _, rfl⟩⟩
/-- (a, *b, ..), known to the object -/
def tTupX (t : TA) : TE := fun σ H Q => t σ H fun xs H1 => xs.length ≤ sizeLine ∧ ∀ p ob, H1 p = none → ob.cls = .type "tuple" → ob.dict = none → Q (.ref p) (upd H1 p (.frz ob (.tup xs)))
theorem pe_tupX {x1} (h : PA X es t) : PE X (.Tuple es x1 pos) (tTupX t) := by
  refine ⟨fun pins s σ H Q I hq => ?_⟩
  refine wpAny_Tuple_spliced (thn (h.run pos pins s σ H _ I hq) fun us s1 ⟨xs, H1, I1, r, z, q⟩ => ⟨by rw [← r.length]; exact z, ?_⟩)
  exact ⟨.ref s1.heap.objs.size, _, laid_x I1 r z s1.toks, rfl, q _ _ (I1.hok.fresh (Nat.le_refl _)) rfl rfl⟩
/-- tuple(list), known to the object -/
def rTupX (K : PySem.W.Frag) : List V → Hp → VK → Prop := fun xs H Q => ∃ p ys, xs = [.ref p] ∧ SqL K H p ys ∧ ∀ l ob, H l = none → ob.cls = .type "tuple" → ob.dict = none → Q (.ref l) (upd H l (.frz ob (.tup ys)))
theorem k_tupX (K : PySem.W.Frag) (hk : X.K = K := by rfl) : CallR X (.type "tuple") (rTupX K) := by
  subst hk
  intro pins s σ H xs us Q I r h
  obtain ⟨p, ys, rfl, hq, q⟩ := h
  obtain ⟨u, rfl, rx⟩ := vals1 r
  cases rx
  obtain ⟨its, r', pl, hz⟩ := I.list hq
  have hlen := r'.length
  refine call_tuple_list pl.isList (fun h' kp => ?_) (by rw [List.size_toArray, ← hlen]; exact hz)
  have I1 : Inv X pins σ H { s with heap := h' } := I.kept (t' := s.toks) kp
  exact ⟨.ref h'.objs.size, _, laid_x (s := { s with heap := h' }) I1 r' hz s.toks, rfl, q _ _ (I1.hok.fresh (Nat.le_refl _)) rfl rfl⟩
/-- t.index(k) -/
def tIdx (to : TE) (t : TA) : TE := fun σ H Q => to σ H fun x H1 => ∃ ns, XT H1 x ns ∧ t σ H1 fun vs H2 => ∃ k : Int, vs = [.int k] ∧ XT H2 x ns ∧ k ∈ ns ∧ Q (.int (ns.idxOf k : Nat)) H2
theorem pe_tidx (ho : PE X o to) (ha : PA X [e] t) (hs : starEach [e] X.env = [(false, eval e X.env)] := by rfl) (hbase : attributeBase o "index" X.env (eval o X.env) = eval o X.env := by rfl) (hline : (apos.endLine == cpos.line) = true := by rfl) :
    PE X (.Call (.Attribute o "index" apos) [e] [] cpos) (tIdx to t) := by
  have hb : backTo cpos (starEach [e] X.env) = [(false, eval e X.env)] := by rw [hs]; rfl
  refine ⟨fun pins s σ H Q I h => ?_⟩
  refine wpAny_Call_method1_late hbase hline hb (thn (ho.run pins s σ H _ I h) fun v s1 ⟨x, H1, I1, r1, ns, hx, q1⟩ => ?_)
  obtain ⟨a, ob, rfl, ha1, hc, hd⟩ := hx
  cases r1
  obtain ⟨h1, _⟩ := (show ObjOk X.prog X.w H1 s1.heap a (.frz ob (.tup (ns.map V.int))) from I1.hok a _ ha1)
  refine ⟨"tuple", _, PySem.F.plainAttrs_tuple, PySem.F.slot_tuple_index, PySem.F.type_tuple_index, ⟨ob, h1, hc⟩, fun b eb => by cases eb; exact ⟨ob, h1, hd⟩, ?_⟩
  have hA := ha.run cpos pins s1 σ H1 _ I1 q1
  rw [hb] at hA
  refine Calls.callWith_builtin rfl (Calls.evalArgs_plain ?_)
  refine thn hA fun us s2 ⟨vs, H2, I2, r2, k, ek, hx2, hm, q2⟩ => ?_
  subst ek
  obtain ⟨u, rfl, t2, rfl⟩ := vals1 r2
  obtain ⟨a', ob2, ea, ha2, _⟩ := hx2
  cases ea
  obtain ⟨its, rv, p, _⟩ := I2.tuple (xs := ns.map V.int) (.inl (.inr ⟨ob2, ha2⟩))
  have hl := rv.length
  rw [List.length_map] at hl
  refine SeqAt.call_tuple_index (vs := its) (ks := ns) (k := k) (show s2.heap.IsTuple a its.toArray from p) ⟨hl.symm, fun j h1 h2 => ?_⟩ hm ⟨.int _, H2, I2.tok _, ⟨_, rfl⟩, q2⟩
  have e1 : (ns.map V.int)[j]? = some (.int ns[j]) := by rw [List.getElem?_map, List.getElem?_eq_getElem h2] <;> rfl
  obtain ⟨w, ew, t3, rw'⟩ := rv.get e1
  have e2 : its[j] = w := by
    rw [List.getElem?_eq_getElem h1] at ew
    exact Option.some.inj ew
  rw [e2, rw', ← Bool.beq_eq_decide_eq ns[j] k]
  exact SeqAt.EqAt.int_int _ _ _ _
end
/-! ### readings -/
def EdX (te : TE) (σ : L2.St) (H : Hp) (ns : List Int) : Prop := ∀ H1, Ex H H1 → ∀ Q : VK, (∀ v H2, Ex H1 H2 → XT H2 v ns → Q v H2) → te σ H1 Q
section
variable {K : PySem.W.Frag} {σ : L2.St} {H : Hp} {ta tb te : TE} {tr : TA} {ns ms : List Int} {d : PyData} {ds : List PyData} {v : V}
theorem EdX.ed (h : EdX te σ H ns) : Ed K te σ H (.tuple (ns.map PyData.int)) := fun H1 e Q q => h H1 e Q fun v H2 e2 x => q v H2 e2 x.rp
theorem edX_var {i : Nat} (h : σ[i]? = some (some v)) (hx : XT H v ns) : EdX (tVar i) σ H ns := fun H1 e Q q => ⟨v, h, q v H1 (Ex.refl H1) (hx.ex e)⟩
theorem edX_is (h : EdX te σ H ns) (e : ns = ms) : EdX te σ H ms := e ▸ h
theorem edX_tup (h : EdL K ta σ H (ns.map PyData.int)) : EdX (tCB (rTupX K) (tCons ta tNil)) σ H ns := fun H1 e Q q =>
  h H1 e _ fun p vs H2 _ e2 h2 r => ⟨p, vs, rfl, sq_of h2, fun l ob hl hc hd => q _ _ (e2.trans (Ex.new hl)) ⟨l, ob, rfl, by rw [upd_same, r.ints], hc, hd⟩⟩
theorem edX_disp (h : Eds K tr σ H (ns.map PyData.int)) (hz : ns.length ≤ 100000) : EdX (tTupX tr) σ H ns := fun H1 e Q q =>
  h H1 e _ fun vs H2 e2 r => ⟨sz_of (by rw [r.len, List.length_map]; exact hz), fun p ob hp hc hd => q _ _ (e2.trans (Ex.new hp)) ⟨p, ob, rfl, by rw [upd_same, r.ints], hc, hd⟩⟩
theorem ev_idx {k : Int} (h : EdX ta σ H ns) (h2 : Ev tb σ H (.int k)) (hk : k ∈ ns) : Ev (tIdx ta (tCons tb tNil)) σ H (.int (ns.idxOf k : Nat)) := fun H1 e Q q =>
  h H1 e _ fun v H2 e2 x => ⟨ns, x, h2 H2 (e.trans e2) _ fun H3 e3 => ⟨k, rfl, x.ex e3, hk, q H3 (e2.trans e3)⟩⟩
/-- *t in a display -/
theorem eds_star (h : Ed K te σ H (.tuple ds)) {es : List PyData} (hr : Eds K tr σ H es) : Eds K (StX.tStar K te tr) σ H (ds ++ es) := fun H1 e Q q =>
  h H1 e _ fun v H2 e2 r => by
    obtain ⟨a, xs, rfl, hs, rs⟩ := rp_tup r
    exact ⟨a, xs, rfl, .inl hs, hr H2 (e.trans e2) _ fun ys H3 e3 r3 => q _ H3 (e2.trans e3) ((rs.ex e3).app r3)⟩
end
section
variable {X : Cx} {e : Expr} {es : List Expr} {te : TE} {t : TA} {p : Pos}
theorem k_star (K : PySem.W.Frag) (he : PE X e te) (hr : PA X es t) (h : X.K = K := by rfl) (hs : starEach (.Starred e p :: es) X.env = (true, eval e X.env) :: starEach es X.env := by rfl) : PA X (.Starred e p :: es) (StX.tStar K te t) := h ▸ StX.pa_star he hr hs
end
end PR
end
section
set_option Elab.async false
set_option linter.all false
set_option maxRecDepth 100000
set_option maxHeartbeats 4000000
/-! Dicts whose keys are tuples of ints known to their objects. -/
namespace PR
open PySem PySem.Spec PyProof.Rows L2 Evl
abbrev kI (ns : List Int) : List Key := ns.map Sum.inl
theorem kI_V (ns : List Int) : (kI ns).map kV = ns.map V.int := by
  rw [List.map_map]
  rfl
theorem kI_inj {a b : List Int} (h : kI a = kI b) : a = b := by
  have e := congrArg (List.map fun k : Key => match k with | .inl i => i | .inr _ => 0) h
  rw [List.map_map, List.map_map] at e
  have f : ∀ l : List Int, l.map ((fun k : Key => match k with | .inl i => i | .inr _ => (0 : Int)) ∘ Sum.inl) = l := fun l => by
    rw [show ((fun k : Key => match k with | .inl i => i | .inr _ => (0 : Int)) ∘ Sum.inl) = id from rfl, List.map_id]
  rw [f, f] at e
  exact e
abbrev XE := List Key × Addr × Value
/-- the dict's object, by its entries -/
def DXo (P : Program) (w : World) (d : Addr) (xs : List XE) : HO := .ext fun h => ∃ o es ep, h.get? d = some o ∧ o.ExactDict ∧ o.data = .dict es ep ∧ es.toList = xs.map (entryOfKey (tupleKind (mixKind P w)))
theorem dxo_not {P : Program} {w : World} {d : Addr} {xs : List XE} : (∀ u, DXo P w d xs ≠ .tup u) ∧ (∀ o u, DXo P w d xs ≠ .frz o u) ∧ (∀ u, DXo P w d xs ≠ .lst u) ∧ (∀ u, DXo P w d xs ≠ .dK u) :=
  ⟨fun _ z => (by unfold DXo at z; cases z), fun _ _ z => (by unfold DXo at z; cases z), fun _ z => (by unfold DXo at z; cases z), fun _ z => (by unfold DXo at z; cases z)⟩
def DXR (H : Hp) : List (List Int × V) → List XE → Prop := Paired fun p q => q.1 = kI p.1 ∧ XT H (.ref q.2.1) p.1 ∧ RelV p.2 q.2.2
theorem DXR.up {H H' : Hp} {kvs : List (List Int × V)} {xs : List XE} (h : DXR H kvs xs) (e : TEx H H') : DXR H' kvs xs := Paired.mapP h fun p q z => ⟨z.1, z.2.1.up e, z.2.2⟩
theorem DXR.keys {H : Hp} {kvs : List (List Int × V)} {xs : List XE} (h : DXR H kvs xs) : xs.map (·.1) = (kvs.map (·.1)).map kI := by
  induction h with
  | nil => rfl
  | cons a t ih => rw [List.map_cons, List.map_cons, List.map_cons, ih, a.1]
theorem DXR.len {H : Hp} {kvs : List (List Int × V)} {xs : List XE} (h : DXR H kvs xs) : kvs.length = xs.length := Paired.length h
theorem DXR.val {H : Hp} {kvs : List (List Int × V)} {xs : List XE} (h : DXR H kvs xs) (k : List Int) : RelO (valV kvs k) ((atKey xs (kI k)).map (·.2)) := by
  induction h with
  | nil => exact True.intro
  | @cons p q ps qs a t ih =>
    by_cases e : p.1 = k
    · have e2 : q.1 = kI k := by rw [a.1, e]
      have e3 : atKey (q :: qs) (kI k) = some q.2 := by simp [atKey, List.find?_cons, e2]
      rw [valV_pos e, e3]
      exact a.2.2
    · have e2 : ¬ q.1 = kI k := fun z => e (kI_inj (a.1.symm.trans z))
      have e3 : atKey (q :: qs) (kI k) = atKey qs (kI k) := by simp [atKey, List.find?_cons, e2]
      rw [valV_neg e, e3]
      exact ih
theorem paired_snoc {α β : Type} {F : α → β → Prop} {a : α} {b : β} (h : F a b) : ∀ {l : List α} {m : List β}, Paired F l m → Paired F (l ++ [a]) (m ++ [b])
  | _, _, .nil => .cons h .nil
  | _, _, .cons x t => .cons x (paired_snoc h t)
theorem nodup_kI {l : List (List Int)} (h : l.Nodup) : (l.map kI).Nodup := List.Pairwise.map _ (fun a b hab z => hab (kI_inj z)) h
/-- at d a dict of these keys and values -/
structure DX (P : Program) (w : World) (H : Hp) (d : Addr) (kvs : List (List Int × V)) : Prop where
  ex : ∃ xs, H d = some (DXo P w d xs) ∧ DXR H kvs xs
  nm : (d == sysModules) = false
  nd : (kvs.map (·.1)).Nodup
  len : kvs.length ≤ 100000
theorem DX.ext {P : Program} {w : World} {H H' : Hp} {d : Addr} {kvs : List (List Int × V)} (h : DX P w H d kvs) (e : Ex H H') : DX P w H' d kvs := by
  obtain ⟨⟨xs, h1, h2⟩, h3, h4, h5⟩ := h
  exact ⟨⟨xs, e _ _ h1, h2.up (exT e)⟩, h3, h4, h5⟩
/-- another thing is changed -/
theorem DX.other {P : Program} {w : World} {H : Hp} {d p : Addr} {kvs : List (List Int × V)} {o : HO} (h : DX P w H d kvs) (hne : d ≠ p) (t : TEx H (upd H p o)) : DX P w (upd H p o) d kvs := by
  obtain ⟨⟨xs, h1, h2⟩, h3, h4, h5⟩ := h
  exact ⟨⟨xs, by rw [upd_ne hne]; exact h1, h2.up t⟩, h3, h4, h5⟩
theorem DX.at_ {P : Program} {w : World} {H : Hp} {d : Addr} {kvs : List (List Int × V)} (h : DX P w H d kvs) : ∃ xs, H d = some (DXo P w d xs) := let ⟨xs, h1, _⟩ := h.ex; ⟨xs, h1⟩
theorem DX.ne {P : Program} {w : World} {H : Hp} {d p : Addr} {kvs : List (List Int × V)} {vs : List V} (h : DX P w H d kvs) (hp : H p = some (.lst vs)) : d ≠ p := by
  rintro rfl
  obtain ⟨xs, h1⟩ := h.at_
  rw [h1] at hp
  exact dxo_not.2.2.1 _ (Option.some.inj hp)
theorem TEx.dx {P : Program} {w : World} {H : Hp} {d : Addr} {xs : List XE} {o' : HO} (h : H d = some (DXo P w d xs)) : TEx H (upd H d o') := TEx.mut h trivial
section
variable {X : Cx} {pins : List (Addr × Obj)} {σ : L2.St} {H : Hp} {s : Shared} {d b : Addr} {kvs : List (List Int × V)} {ns : List Int} {A : Around} {E : Value → Shared → Prop}
theorem key_x (I : Inv X pins σ H s) (h : SqT X.K H b (ns.map V.int)) : (tupleKind (mixKind X.prog X.w)).is s.heap (kI ns) b := by
  obtain ⟨its, r, ⟨o, h1, h2, n, h3⟩, _⟩ := I.tuple h
  rw [← kI_V] at r
  exact ⟨o, its.toArray, n, h1, h2, h3, by simpa using items_are r⟩
theorem XT.sq {K : PySem.W.Frag} (h : XT H (.ref b) ns) : SqT K H b (ns.map V.int) := by
  obtain ⟨a, o, e, ha, _⟩ := h
  cases e
  exact .inl (.inr ⟨o, ha⟩)
theorem dx_of (I : Inv X pins σ H s) (h : DX X.prog X.w H d kvs) : ∃ xs, H d = some (DXo X.prog X.w d xs) ∧ DXR H kvs xs ∧ s.heap.DictOfH (tupleKind (mixKind X.prog X.w)) d xs := by
  obtain ⟨⟨xs, h1, h2⟩, h3, h4, h5⟩ := h
  obtain ⟨⟨o, es, ep, e1, e2, e3, e4⟩, _⟩ := (show ObjOk X.prog X.w H s.heap d (DXo X.prog X.w d xs) from I.hok d _ h1)
  refine ⟨xs, h1, h2, o, es, ep, e1, e2, e3, e4, fun x hx => ?_, by rw [h2.keys]; exact nodup_kI h4⟩
  have all : ∀ {l : List (List Int × V)} {m : List XE}, DXR H l m → ∀ x ∈ m, (tupleKind (mixKind X.prog X.w)).is s.heap x.1 x.2.1 := by
    intro l m q
    induction q with
    | nil => intro x hx; exact nomatch hx
    | cons a t ih =>
      intro x hx
      rcases List.mem_cons.mp hx with e | hx
      · subst e
        rw [a.1]
        exact key_x I a.2.1.sq
      · exact ih x hx
  exact all h2 x hx
theorem dx_in {Q : Value → Shared → Prop} (hu : A.units + 1 < cLine) (I : Inv X pins σ H s) (h : DX X.prog X.w H d kvs) (hb : SqT X.K H b (ns.map V.int)) (q : ∀ s', Inv X pins σ H s' → Q (.bool (valV kvs ns).isSome) s') :
    wpAny (model X.prog X.w) A (compareOp .In (.ref b) (.ref d)) Q E s := by
  obtain ⟨xs, h1, h2, dd⟩ := dx_of I h
  refine wpAny_in_heap (tupleKind_room_in1 hu) (key_x I hb) h.nm dd ?_
  have z := (h2.val ns).isSome_eq
  rw [Option.isSome_map] at z
  rw [← z]
  exact q _ (I.tok _)
theorem dx_notIn {Q : Value → Shared → Prop} (hu : A.units + 1 < cLine) (I : Inv X pins σ H s) (h : DX X.prog X.w H d kvs) (hb : SqT X.K H b (ns.map V.int)) (q : ∀ s', Inv X pins σ H s' → Q (.bool (!(valV kvs ns).isSome)) s') :
    wpAny (model X.prog X.w) A (compareOp .NotIn (.ref b) (.ref d)) Q E s := by
  obtain ⟨xs, h1, h2, dd⟩ := dx_of I h
  refine wpAny_notIn_heap (tupleKind_room_in1 hu) (key_x I hb) h.nm dd ?_
  have z := (h2.val ns).isSome_eq
  rw [Option.isSome_map] at z
  rw [← z]
  exact q _ (I.tok _)
theorem dx_get {v : V} {Q : Value → Shared → Prop} (hu : A.units + 1 < cLine) (I : Inv X pins σ H s) (h : DX X.prog X.w H d kvs) (hb : SqT X.K H b (ns.map V.int)) (hv : valV kvs ns = some v) (q : ∀ w' s', Inv X pins σ H s' → RelV v w' → Q w' s') :
    wpAny (model X.prog X.w) A (getItem (.ref d) (.ref b)) Q E s := by
  obtain ⟨xs, h1, h2, dd⟩ := dx_of I h
  obtain ⟨w', hw, rw'⟩ := RelO.some_of (v := v) (o := (atKey xs (kI ns)).map (·.2)) (by rw [← hv]; exact h2.val ns)
  obtain ⟨p, hp, hp2⟩ := Option.map_eq_some_iff.mp hw
  refine wpAny_getItem_heap (tupleKind_room_in1 hu) (key_x I hb) dd hp ?_
  rw [hp2]
  exact q w' _ (I.tok _) rw'
/-- d[k] = v, k not there before -/
theorem dx_put {v : V} {r : Value} {Q : Unit → Shared → Prop} (hu : A.units + 1 < cLine) (I : Inv X pins σ H s) (h : DX X.prog X.w H d kvs) (hb : XT H (.ref b) ns) (hn : valV kvs ns = none) (hl : kvs.length < 100000) (rv : RelV v r)
    (q : ∀ H' s', (∀ a, a ≠ d → H' a = H a) → TEx H H' → Inv X pins σ H' s' → DX X.prog X.w H' d (kvs ++ [(ns, v)]) → Q () s') : wpAny (model X.prog X.w) A (setItem (.ref d) (.ref b) r) Q E s := by
  obtain ⟨xs, h1, h2, dd⟩ := dx_of I h
  have hz : xs.length ≤ sizeLine := by rw [← h2.len]; exact sz_of h.len
  have hno : atKey xs (kI ns) = none := by
    have z := (h2.val ns).isSome_eq
    rw [hn, Option.isSome_map] at z
    exact Option.isNone_iff_eq_none.mp (by rw [← Option.not_isSome, ← z]; rfl)
  refine wpAny_setItem_heap (hsz := hz) (tupleKind_room_in1 hu) (key_x I hb.sq) dd fun h' dd' hs => ?_
  rw [storedH_new hno] at dd'
  obtain ⟨o, es, ep, e1, e2, e3, e4, _, e6⟩ := dd'
  have tx : TEx H (upd H d (DXo X.prog X.w d (xs ++ [(kI ns, b, r)]))) := TEx.dx h1
  refine q _ _ (fun a ha => upd_ne ha) tx (d_write I (by rw [h1]; exact True.intro) hs ⟨o, e1⟩ ?_) ?_
  · exact ⟨⟨o, es, ep, e1, e2, e3, e4⟩, ⟨o, e1⟩, fun g1 g2 ⟨o, es, ep, z1, z2⟩ st => ⟨o, es, ep, st _ z1, z2⟩⟩
  · refine ⟨⟨_, upd_same, paired_snoc ⟨rfl, hb.up tx, rv⟩ (h2.up tx)⟩, h.nm, ?_, by rw [List.length_append, List.length_singleton]; omega⟩
    rw [List.map_append, List.nodup_append]
    refine ⟨h.nd, List.nodup_cons.mpr ⟨List.not_mem_nil, List.nodup_nil⟩, fun a ha c hc z => ?_⟩
    have ec : c = ns := by simpa using hc
    rw [z, ec] at ha
    obtain ⟨p, hp, ep'⟩ := List.mem_map.mp ha
    have : (valV kvs ns).isSome = true := by
      rw [← valV_any]
      exact List.any_eq_true.mpr ⟨p, hp, decide_eq_true ep'⟩
    rw [hn] at this
    cases this
end
end PR
end
section
set_option Elab.async false
set_option linter.all false
set_option maxRecDepth 100000
set_option maxHeartbeats 4000000
/-! None asked of such a dict; its rules. -/
namespace PR
open PySem PySem.Spec PyProof.Rows L2 Evl
section
variable {prog : Program} {w : World} {A : Around} {E : Value → Shared → Prop} {s : Shared}
theorem mayTell_non {stored : List Value} {Q : Bool → Shared → Prop} (hst : ∀ v ∈ stored, ∃ b, v = .ref b ∧ (∀ {A' : Around} {E' : Value → Shared → Prop} {Q' : Bool → Shared → Prop}, Q' true s → wpAny (model prog w) A' (eqIsQuiet 8 (.ref b)) Q' E' s)) (h : Q false s) :
    wpAny (model prog w) A (tableMayTell .none stored) Q E s := by
  unfold tableMayTell
  split
  · exact wpAny_pure h
  · rw [eqIsQuiet_byValue 8 (show carriedByValue .none = true from rfl)]
    refine wpAny_bind (wpAny_pure ?_)
    simp only [Bool.not_true, Bool.false_eq_true, if_false]
    refine wpAny_bind ?_
    refine wpAny_forIn_list _ (fun rest r s' => s' = s ∧ r = (none, ()) ∧ ∀ v ∈ rest, ∃ b, v = .ref b ∧ (∀ {A' : Around} {E' : Value → Shared → Prop} {Q' : Bool → Shared → Prop}, Q' true s → wpAny (model prog w) A' (eqIsQuiet 8 (.ref b)) Q' E' s)) _ ?_ ?_ _ _ ⟨rfl, rfl, hst⟩
    · rintro x rest r s' ⟨rfl, rfl, hr⟩
      obtain ⟨b, rfl, hb⟩ := hr x List.mem_cons_self
      refine wpAny_bind (hb ?_)
      simp only [Bool.not_true, Bool.false_eq_true, if_false]
      exact wpAny_pure ⟨rfl, rfl, fun v hv => hr v (List.mem_cons_of_mem _ hv)⟩
    · rintro r s' ⟨rfl, rfl, _⟩
      exact wpAny_pure h
theorem dictFind_non {d : Addr} {o : Obj} {es : Array DictEntry} {ep : Nat} {hz : Int} {Q : Option Nat → Shared → Prop} (ho : s.heap.get? d = some o) (hd : o.data = .dict es ep)
    (hr : ∀ e ∈ es, ∃ b, e.key = .ref b ∧ (∀ {A' : Around} {E' : Value → Shared → Prop} {Q' : Bool → Shared → Prop}, Q' true s → wpAny (model prog w) A' (eqIsQuiet 8 (.ref b)) Q' E' s) ∧ SeqAt.EqAt A s (.ref b) .none false) (h : Q none s) :
    wpAny (model prog w) A (dictFind d .none hz) Q E s := by
  have at_ : ∀ (i : Nat) (e : DictEntry), es[i]? = some e → ∃ b, e.key = .ref b ∧ SeqAt.EqAt A s (.ref b) .none false := fun i e he => by
    obtain ⟨b, h1, _, h3⟩ := hr e (Array.mem_of_getElem? he)
    exact ⟨b, h1, h3⟩
  unfold dictFind
  try with_reducible refine wpAny_holding ?_
  refine wpAny_bind (wpAny_dictEntries ho hd ?_)
  dsimp only
  by_cases hall : ((Value.none :: (placesWithHash es.size (fun i => es[i]?.map (·.hash)) hz).filterMap (fun i => es[i]?.map (·.key))).all carriedByValue) = true
  · rw [if_pos hall]
    unfold dictWalkPlain
    refine wpAny_bind ?_
    refine wpAny_forIn_list _ (fun _ b s' => s' = s ∧ b = (none, ())) _ ?_ ?_ _ _ ⟨rfl, rfl⟩
    · rintro x rest b s' ⟨rfl, rfl⟩
      dsimp only
      cases hx : es[x]? with
      | none => exact wpAny_pure ⟨rfl, rfl⟩
      | some e =>
        obtain ⟨b, hb, he⟩ := at_ x e hx
        dsimp only
        by_cases hh : (e.hash == hz) = true
        · rw [if_pos hh]
          refine wpAny_bind (wpAny_dictEpoch ho hd (wpAny_bind ?_))
          rw [hb]
          refine he _ _ _ _ (wpAny_bind (wpAny_dictEpoch ho hd ?_))
          rw [if_neg (by simp)]
          simp only [Bool.false_eq_true, if_false]
          exact wpAny_bind (wpAny_rule (wpAny_pure ⟨rfl, rfl⟩))
        · rw [if_neg hh]
          exact wpAny_pure ⟨rfl, rfl⟩
    · rintro b s' ⟨rfl, rfl⟩
      exact wpAny_pure h
  · rw [if_neg hall]
    have hst : ∀ v ∈ (placesWithHash es.size (fun i => es[i]?.map (·.hash)) hz).filterMap (fun i => es[i]?.map (·.key)), ∃ b, v = .ref b ∧ (∀ {A' : Around} {E' : Value → Shared → Prop} {Q' : Bool → Shared → Prop}, Q' true s → wpAny (model prog w) A' (eqIsQuiet 8 (.ref b)) Q' E' s) := by
      intro v hv
      obtain ⟨i, _, hi⟩ := List.mem_filterMap.mp hv
      cases hei : es[i]? with
      | none => rw [hei] at hi; cases hi
      | some e =>
        rw [hei] at hi
        obtain rfl : e.key = v := by simpa using hi
        obtain ⟨b, h1, h2, _⟩ := hr e (Array.mem_of_getElem? hei)
        exact ⟨b, h1, h2⟩
    by_cases hone : (((placesWithHash es.size (fun i => es[i]?.map (·.hash)) hz).filterMap (fun i => es[i]?.map (·.key))) == [Value.none]) = true <;>
    (first | rw [if_pos hone] | rw [if_neg hone]) <;> (first | refine wpAny_bind (wpAny_pure ?_) | refine wpAny_bind (mayTell_non hst ?_)) <;> (
      rw [if_neg (by simp)]
      refine wpAny_bind ?_
      refine wpAny_forIn_list _ (fun _ b s' => s' = s ∧ b = (none, none)) _ ?_ ?_ _ _ ⟨rfl, rfl⟩
      · rintro x rest b s' ⟨rfl, rfl⟩
        dsimp only
        cases hx : es[x]? with
        | none => exact wpAny_pure ⟨rfl, rfl⟩
        | some e =>
          obtain ⟨b, hb, he⟩ := at_ x e hx
          dsimp only
          by_cases hh : (e.hash == hz) = true
          · rw [if_pos hh]
            refine wpAny_bind (wpAny_dictEpoch ho hd (wpAny_bind ?_))
            rw [hb]
            refine he _ _ _ _ (wpAny_bind (wpAny_dictEpoch ho hd ?_))
            rw [if_neg (by simp)]
            simp only [Bool.false_eq_true, if_false, Bool.false_and]
            refine wpAny_bind (wpAny_rule ?_)
            exact wpAny_pure ⟨rfl, rfl⟩
          · rw [if_neg hh]
            exact wpAny_pure ⟨rfl, rfl⟩
      · rintro b s' ⟨rfl, rfl⟩
        exact wpAny_pure h)
theorem dictGet_non {d : Addr} {o : Obj} {es : Array DictEntry} {ep : Nat} {Q : Option Value → Shared → Prop} (hu : A.units < cLine) (ho : s.heap.get? d = some o) (hd : o.data = .dict es ep)
    (hr : ∀ (t : Nat), ∀ e ∈ es, ∃ b, e.key = .ref b ∧ (∀ {A' : Around} {E' : Value → Shared → Prop} {Q' : Bool → Shared → Prop}, Q' true { s with toks := t } → wpAny (model prog w) A' (eqIsQuiet 8 (.ref b)) Q' E' { s with toks := t }) ∧ SeqAt.EqAt A { s with toks := t } (.ref b) .none false)
    (h : Q none { s with toks := s.toks + 1 }) : wpAny (model prog w) A (dictGet d .none) Q E s := by
  unfold dictGet
  try with_reducible refine wpAny_holding ?_
  refine wpAny_bind (PySem.W.pyHash_slot (T := "NoneType") rfl PySem.F.slot_NoneType_hash PySem.F.entry_NoneType_hash (PySem.F.args_NoneType_hash_1 _) (beq_builtin_none _) (.inr hu) (wpAny_bind (wpAny_pure (wpAny_bind (wpAny_mkInt (wpAny_pure ⟨_, _, rfl, ?_⟩))))))
  exact wpAny_bind (dictFind_non (s := { s with toks := s.toks + 1 }) ho hd (hr _) (wpAny_pure h))
theorem notIn_non {d : Addr} {o : Obj} {es : Array DictEntry} {ep : Nat} {Q : Value → Shared → Prop} (hu : A.units + 1 < cLine) (hm : (d == sysModules) = false) (ho : s.heap.get? d = some o) (hx : o.ExactDict) (hd : o.data = .dict es ep)
    (hr : ∀ (t : Nat), ∀ e ∈ es, ∃ b, e.key = .ref b ∧ (∀ {A' : Around} {E' : Value → Shared → Prop} {Q' : Bool → Shared → Prop}, Q' true { s with toks := t } → wpAny (model prog w) A' (eqIsQuiet 8 (.ref b)) Q' E' { s with toks := t }) ∧ SeqAt.EqAt A.in1 { s with toks := t } (.ref b) .none false)
    (h : Q (.bool true) { s with toks := s.toks + 1 }) : wpAny (model prog w) A (compareOp .NotIn .none (.ref d)) Q E s := by
  have hT : s.TypeIs (.ref d) "dict" := ⟨o, ho, hx.1⟩
  show wpAny _ _ (do return .bool (!(← contains (.ref d) .none))) Q E s
  refine wpAny_bind (wpAny_contains_slot hT PySem.F.slot_dict_contains ?_)
  refine wpAny_call_entry PySem.F.slot_dict_contains hT PySem.F.entry_dict_contains ?_ (PySem.F.args_dict_contains_2 _ _)
  show wpAny _ A.in1 (dictGet d .none >>= _) _ _ _
  refine wpAny_bind (dictGet_non hu ho hd hr ?_)
  show wpAny _ _ (Builtin.Dict.pendingKey? d .none >>= _) _ _ _
  exact wpAny_bind (wpAny_pendingKey_other hm (wpAny_pure ⟨_, rfl, wpAny_truthy_bool (wpAny_pure h)⟩))
end
section
variable {X : Cx} {o i e value : Expr} {pos pos' tpos : Pos} {td ty tv : TE}
/-- x in d, x not in d: x a tuple of ints, or None -/
def rDxIn (K : PySem.W.Frag) (P : Program) (w : World) : R2 := fun x y H Q => ∃ b d kvs ns, x = .ref b ∧ y = .ref d ∧ DX P w H d kvs ∧ SqT K H b (ns.map V.int) ∧ Q (.bl (valV kvs ns).isSome) H
def rDxNi (K : PySem.W.Frag) (P : Program) (w : World) : R2 := fun x y H Q => (∃ b d kvs ns, x = .ref b ∧ y = .ref d ∧ DX P w H d kvs ∧ SqT K H b (ns.map V.int) ∧ Q (.bl (!(valV kvs ns).isSome)) H) ∨ ∃ d kvs, x = .non ∧ y = .ref d ∧ DX P w H d kvs ∧ Q (.bl true) H
theorem op_dxIn (hu : X.A.units + 1 < cLine) : OpR X (compareOp .In) (rDxIn X.K X.prog X.w) := by
  intro pins s σ H x y v u Q I rx ry h
  obtain ⟨b, d, kvs, ns, rfl, rfl, hd, hb, q⟩ := h
  cases rx
  cases ry
  exact dx_in hu I hd hb fun s' I' => ⟨.bl _, H, I', rfl, q⟩
theorem op_dxNi (hu : X.A.units + 1 < cLine) : OpR X (compareOp .NotIn) (rDxNi X.K X.prog X.w) := by
  intro pins s σ H x y v u Q I rx ry h
  rcases h with ⟨b, d, kvs, ns, rfl, rfl, hd, hb, q⟩ | ⟨d, kvs, rfl, rfl, hd, q⟩
  · cases rx
    cases ry
    exact dx_notIn hu I hd hb fun s' I' => ⟨.bl _, H, I', rfl, q⟩
  · cases rx
    cases ry
    obtain ⟨xs, h1, h2, o, es, ep, e1, e2, e3, e4, e5, _⟩ := dx_of I hd
    refine notIn_non hu hd.nm e1 e2 e3 (fun t e he => ?_) ⟨.bl true, H, I.tok _, rfl, q⟩
    have : e ∈ xs.map (entryOfKey (tupleKind (mixKind X.prog X.w))) := e4 ▸ Array.mem_toList_iff.mpr he
    obtain ⟨x, hx, rfl⟩ := List.mem_map.mp this
    have hk := e5 x hx
    refine ⟨x.2.1, rfl, fun q => wpAny_eqIsQuiet_tuple (knd := mixKind X.prog X.w) hk q, ?_⟩
    obtain ⟨ob, its, n, g1, g2, g3, _⟩ := hk
    exact SeqAt.EqAt.tuple_none (items := its) ⟨ob, g1, g2, n, g3⟩ hu
/-- d[k] -/
def tDxGet (K : PySem.W.Frag) (P : Program) (w : World) (td ty : TE) : TE := fun σ H Q => td σ H fun x H1 => ty σ H1 fun y H2 => ∃ d b kvs ns v, x = .ref d ∧ y = .ref b ∧ DX P w H2 d kvs ∧ SqT K H2 b (ns.map V.int) ∧ valV kvs ns = some v ∧ Q v H2
theorem pe_dxget (hu : X.A.units + 1 < cLine) (ho : PE X o td) (hi : PE X i ty) (hs : NoSl i) : PE X (.Subscript o i pos) (tDxGet X.K X.prog X.w td ty) := by
  refine ⟨fun pins s σ H Q I h => ?_⟩
  refine subD_of PySem.F.slot_dict_getitem.lookup hs (thn (ho.run pins s σ H _ I h) fun u s1 ⟨x, H1, I1, rx, q1⟩ => thn (hi.run pins s1 σ H1 _ I1 q1) fun iv s2 ⟨y, H2, I2, ry, d, b, kvs, ns, v, ex, ey, hd, hb, hv, q2⟩ => ?_)
  subst ex ey
  obtain rfl : u = Value.ref d := rx
  obtain rfl : iv = Value.ref b := ry
  obtain ⟨xs, h1, h2, dd⟩ := dx_of I2 hd
  exact ⟨dd.typeIs, dx_get hu I2 hd hb hv fun w' s3 I3 rw' => ⟨v, H2, I3, rw', q2⟩⟩
/-- d[k] = v, k new -/
def sDxPut (P : Program) (w : World) (td ty tv : TE) : TS := fun D σ H => tv σ H fun v H1 => td σ H1 fun x H2 => ty σ H2 fun y H3 => ∃ d b kvs ns, x = .ref d ∧ y = .ref b ∧ DX P w H3 d kvs ∧ XT H3 (.ref b) ns ∧ valV kvs ns = none ∧ kvs.length < 100000 ∧
  ∀ H', (∀ a, a ≠ d → H' a = H3 a) → TEx H3 H' → DX P w H' d (kvs ++ [(ns, v)]) → D.nx σ H'
theorem ps_dxput (hu : X.A.units + 1 < cLine) (ho : PE X o td) (hi : PE X i ty) (hv : PE X value tv) (hs : swapsWith value (some (.Subscript o i pos')) pos.line X.env = pure false) :
    PS X (.Assign [.Subscript o i pos'] value pos) (sDxPut X.prog X.w td ty tv) := by
  refine ⟨fun pins s σ H D I h => ?_⟩
  refine wpAny_Assign_Subscript (thn (hv.run pins s σ H _ I h) fun r s1 ⟨v, H1, I1, rv, q1⟩ => thn (ho.run pins s1 σ H1 _ I1 q1) fun u s2 ⟨x, H2, I2, rx, q2⟩ => thn (hi.run pins s2 σ H2 _ I2 q2) fun iv s3 ⟨y, H3, I3, ry, d, b, kvs, ns, ex, ey, hd, hb, hn, hl, q3⟩ => ?_) hs
  subst ex ey
  obtain rfl : u = Value.ref d := rx
  obtain rfl : iv = Value.ref b := ry
  exact dx_put hu I3 hd hb hn hl rv fun H' s4 k t I4 dx => ⟨σ, H', I4, q3 H' k t dx⟩
/-- {k: v} of one such key -/
def tDxDisp (P : Program) (w : World) (tk tv : TE) : TE := fun σ H Q => ∀ d, H d = none → tk σ (upd H d (.dK [])) fun x H1 => tv σ H1 fun y H2 => H2 d = some (.dK []) ∧ ∃ b ns, x = .ref b ∧ XT H2 (.ref b) ns ∧
  ∀ H', (∀ a, a ≠ d → H' a = H2 a) → TEx H2 H' → DX P w H' d [(ns, y)] → Q (.ref d) H'
theorem pe_dxdisp {k v : Expr} {tk tv : TE} (hu : X.A.units + 1 < cLine) (hk : PE X k tk) (hv : PE X v tv) : PE X (.Dict [some k] [v] pos) (tDxDisp X.prog X.w tk tv) := by
  refine ⟨fun pins s σ H Q I q => ?_⟩
  have hn := I.hok.fresh (Nat.le_refl s.heap.objs.size)
  have I1 := I.laid (a := s.heap.objs.size) (o := .dK []) (h' := s.heap.push { cls := .type "dict", data := .dict #[] }) (t' := s.toks) (fun _ _ q => Heap.get?_push_of_some _ q) (Nat.le_refl _) (dk_empty s.heap I.big)
  rw [arm_eval_Dict, zip_pairTrees [some k] [v] X.env pos rfl rfl, dictDisplay_pairs (pairTrees [some k] [v] X.env pos) (fun z => nomatch z) (show 1 < 17 by decide)]
  refine wpAny_bind (wpAny_standAt (wpAny_bind (wpAny_subDictH (knd := tupleKind (mixKind X.prog X.w)) (Nat.lt_of_le_of_lt (Nat.le_succ _) hu) (show 1 ≤ 15 by decide) ?_)))
  refine pairTrees_cons_walk (thn (hk.run pins _ σ _ _ I1 (q _ hn)) fun kv s2 ⟨x, H2, I2, rx, q2⟩ => thn (hv.run pins s2 σ H2 _ I2 q2) fun vv s3 ⟨y, H3, I3, ry, hd0, b, ns, ex, hb, q3⟩ => pairTrees_nil_walk ?_)
  subst ex
  cases rx
  obtain ⟨z, hnm, vs0, r0, dd⟩ := dk_of I3.hok hd0
  cases r0
  have dd0 : s3.heap.DictOfH (tupleKind (mixKind X.prog X.w)) s.heap.objs.size [] := by
    obtain ⟨o, es, ep, g1, g2, g3, g4, g5, _⟩ := dd
    generalize hl : es.toList = l at g5
    cases g5
    exact ⟨o, es, ep, g1, g2, g3, hl, fun x hx => (nomatch hx), List.nodup_nil⟩
  refine ⟨[(kI ns, b, vv)], ⟨rfl, rfl, key_x I3 hb.sq, trivial⟩, dd0, fun h' tk dd' hs => wpAny_pure ?_⟩
  obtain ⟨o, es, ep, e1, e2, e3, e4, _, e6⟩ := dd'
  have tx : TEx H3 (upd H3 s.heap.objs.size (DXo X.prog X.w s.heap.objs.size [(kI ns, b, vv)])) := TEx.dk hd0
  refine ⟨.ref s.heap.objs.size, upd H3 s.heap.objs.size (DXo X.prog X.w s.heap.objs.size [(kI ns, b, vv)]), ?_, rfl, q3 _ (fun a ha => upd_ne ha) tx ?_⟩
  · exact d_write I3 (by rw [hd0]; exact True.intro) hs ⟨o, e1⟩ ⟨⟨o, es, ep, e1, e2, e3, e4⟩, ⟨o, e1⟩, fun g1 g2 ⟨o, es, ep, z1, z2⟩ st => ⟨o, es, ep, st _ z1, z2⟩⟩
  · exact ⟨⟨_, upd_same, .cons ⟨rfl, hb.up tx, ry⟩ .nil⟩, hnm, List.nodup_cons.mpr ⟨List.not_mem_nil, List.nodup_nil⟩, by show 1 ≤ 100000; decide⟩
end
/-! ### sorted(d) -/
abbrev encT (n : List Int) : PyData := .tuple (n.map PyData.int)
def sortP (ns : List (List Int)) : List (List Int) := ns.mergeSort (PySem.W.dataLe false encT)
theorem depth_encT (n : List Int) : (encT n).depth ≤ 1 := by
  have h2 : ∀ ss : List Int, PyData.depthAll (ss.map PyData.int) = 0 := fun ss => by
    induction ss with
    | nil => rfl
    | cons s r ih =>
      show PyData.depthAll (.int s :: r.map PyData.int) = 0
      simp only [PyData.depthAll, PyData.depth, ih, Nat.max_self]
  simp [encT, PyData.depth, h2]
theorem each_xt {H : Hp} : ∀ {us : List Value} {ns : List (List Int)}, PySem.W.EachIs (fun v n => ∃ x, RelV x v ∧ XT H x n) us ns → ∃ vs, Vals vs us ∧ Paired (fun v n => XT H v n) vs ns
  | _, _, .nil => ⟨[], .nil, .nil⟩
  | _, _, .cons ⟨x, q, r⟩ t => by
    obtain ⟨vs, h1, h2⟩ := each_xt t
    exact ⟨x :: vs, .cons q h1, .cons r h2⟩
section
variable {X : Cx}
def rSortX (P : Program) (w : World) : List V → Hp → VK → Prop := fun xs H Q => ∃ d kvs, xs = [.ref d] ∧ DX P w H d kvs ∧ (∀ kv ∈ kvs, kv.1 ≠ []) ∧
  ∀ q ws, H q = none → Paired (fun v n => XT H v n) ws (sortP (kvs.map (·.1))) → Q (.ref q) (upd H q (.lst ws))
theorem cr_sortX (hc : X.calm = true) (hu : X.A.units + 64 < cLine) : CallR X (.builtin "sorted") (rSortX X.prog X.w) := by
  intro pins s σ H xs us Q I r h
  obtain ⟨d, kvs, rfl, hd, hne, q⟩ := h
  obtain ⟨u, rfl, rx⟩ := r.one
  cases rx
  obtain ⟨ks, h1, h2, o, es, ep, e1, e2, e3, e4, e5, e6⟩ := dx_of I hd
  have l1 : es.size = ks.length := size_of_entries e4
  have l2 : kvs.length = ks.length := h2.len
  have hL : (kvs.map (·.1)).length ≤ sizeLine := by rw [List.length_map]; exact sz_of hd.len
  have neK : ∀ b ∈ kvs.map (·.1), ∃ x r, encT b = .tuple (x :: r) := fun b hb => by
    obtain ⟨kv, hkv, rfl⟩ := List.mem_map.mp hb
    cases hk : kv.1 with
    | nil => exact absurd hk (hne kv hkv)
    | cons x r => exact ⟨_, _, rfl⟩
  refine sorted_by (enc := encT) (bs := kvs.map (·.1)) (RR := fun v n => ∃ x, RelV x v ∧ XT H x n) (fun R1 E1 kk => ?_) (fun a ha b hb => ?_) (.inl fun a ha => ?_) hL (fun b hb => by have := depth_encT b; omega) (fun h1' h2' tk out e k1 k2 he hl er => ?_)
  · refine PySem.W.kdu_collect (kdl_raw (es := es) (ep := ep) hd.nm e2 e3) (I.ok.hd hc) e1 (by rw [l1, ← l2]; exact sz_of hd.len) fun h1' tk acc k1 hacc => ?_
    have I1 : Inv X pins σ H { s with heap := h1', toks := tk } := I.kept k1
    have hv : ∀ (kv : List (List Int × V)) (kx : List XE) (us : List Value), DXR H kv kx → us = kx.map (fun x => Value.ref x.2.1) → PySem.W.EachIs (fun v b => ∃ as, Reads h1' v (encT b) as) us (kv.map (·.1)) ∧ PySem.W.EachIs (fun v n => ∃ x, RelV x v ∧ XT H x n) us (kv.map (·.1)) := by
      intro kv kx us dr
      induction dr generalizing us with
      | nil => rintro rfl; exact ⟨.nil, .nil⟩
      | @cons p q ps qs a t ih =>
        rintro rfl
        obtain ⟨i1, i2⟩ := ih _ rfl
        obtain ⟨as, hr⟩ := Dp.reads I1 _ _ _ (Rp.dp (K := X.K) _ _ a.2.1.rp) (show RelV (V.ref q.2.1) (Value.ref q.2.1) from rfl)
        exact ⟨.cons ⟨as, hr⟩ i1, .cons ⟨V.ref q.2.1, rfl, a.2.1⟩ i2⟩
    have hacc2 : acc.toList = ks.map fun x => Value.ref x.2.1 := by
      refine List.ext_getElem? fun j => ?_
      by_cases hj : j < ks.length
      · have e7 : ∃ v, acc[j]? = some v := ⟨acc[j]'(by rw [hacc.1, l1]; exact hj), Array.getElem?_eq_getElem _⟩
        obtain ⟨v, e7⟩ := e7
        obtain ⟨en, e8, rfl⟩ := hacc.2 j v e7
        rw [Array.getElem?_toList, e7, List.getElem?_map]
        rw [← Array.getElem?_toList, e4, List.getElem?_map, List.getElem?_eq_getElem hj] at e8
        rw [List.getElem?_eq_getElem hj]
        cases e8
        rfl
      · rw [List.getElem?_eq_none (by rw [Array.length_toList, hacc.1, l1]; omega), List.getElem?_eq_none (by rw [List.length_map]; omega)]
    obtain ⟨i1, i2⟩ := hv kvs ks _ h2 hacc2
    exact kk h1' tk _ k1 i1 i2
  · obtain ⟨a', _, rfl⟩ := List.mem_map.mp ha
    obtain ⟨b', _, rfl⟩ := List.mem_map.mp hb
    exact PySem.W.alike_ints a' b'
  · obtain ⟨a', h', rfl⟩ := List.mem_map.mp ha
    exact neK a' h'
  · obtain ⟨ws, v1, v2⟩ := each_xt er
    have I1 : Inv X pins σ H { s with heap := h1' } := I.kept (t' := s.toks) k1
    have hn : H h1'.objs.size = none := I1.hok.fresh (Nat.le_refl _)
    have hz : ws.length ≤ sizeLine := by rw [v1.length, hl]; exact hL
    exact ⟨.ref h1'.objs.size, _, I1.laid (t' := tk) (o := .lst ws) k2 (Nat.le_refl _) ⟨hz, out, e, v1, he⟩, rfl, q _ ws hn v2⟩
end
/-! ### d.update(d2) -/
section
variable {X : Cx}
def rDUpd : V → List V → Hp → VK → Prop := fun x xs H Q => ∃ d o kvs more, x = .ref d ∧ xs = [.ref o] ∧ H d = some (.dK kvs) ∧ H o = some (.dK more) ∧ d ≠ o ∧ kvs.length + more.length ≤ 100000 ∧ Q .non (upd H d (.dK (mergeK kvs more)))
theorem mt_dupd : MtR X "dict.update" rDUpd := by
  intro pins s σ H x xs v us Q I rx rs h
  obtain ⟨d, o, kvs, more, rfl, rfl, hd, ho, hne, hz, q⟩ := h
  cases rx
  obtain ⟨u, rfl, ru⟩ := rs.one
  cases ru
  obtain ⟨z, hm, vs, rel, dd⟩ := dk_of I.hok hd
  obtain ⟨z2, hm2, vs2, rel2, dd2⟩ := dk_of I.hok ho
  have hl : vs.length + vs2.length ≤ sizeLine := by rw [← rel.length, ← rel2.length]; exact sz_of hz
  refine call_meetsIn PySem.F.slot_dict_update dd.typeIs PySem.F.entry_dict_update (PySem.F.args_dict_update_2 _ _) (meets_dict_update (mixKind X.prog X.w) d o hne hm2) ⟨vs, vs2, dd, dd2, hl, fun h' dd' _ hs => ?_⟩
  have he : ∃ q, h'.get? d = some q := let ⟨q, _, _, hq, _⟩ := dd'; ⟨q, hq⟩
  have hz3 : (mergeK kvs more).length ≤ sizeLine := Nat.le_trans (length_mergeK more kvs) (sz_of hz)
  exact ⟨.non, _, d_write (t' := s.toks) I (by rw [hd]; exact True.intro) hs he (dk_new hz3 hm (rel2.merge rel) dd'), rfl, q⟩
end
end PR
end
section
set_option Elab.async false
set_option linter.all false
set_option maxRecDepth 100000
set_option maxHeartbeats 4000000
/-! Properties, methods and making, the fragment named. -/
namespace PR
open PySem PySem.Spec PyProof.Rows L2 Evl
section
variable {X : Cx} {d : DfP} {ps : List Str} {sp : Sp} {x c m f : Str} {p pos apos : Pos} {e o : Expr} {es : List Expr} {t : TA} {to te : TE} {k : Nat}
theorem k_prop (K : PySem.W.Frag) (he : PE X e te) (W : W0 K X.mg X.base) (i : Nat) (h : propsO[i]? = some (("Order" : Str), f)) (C : Cal X.prog X.w K X.mg X.base k d ps sp) (hr : Room (k + 1) X.A)
    (hK : X.K = K := by rfl) (hd : d.ad K = getterOf K (He.ma K (He.ga K "Order") f) := by rfl) (hb : attributeBase e f X.env (eval e X.env) = eval e X.env := by rfl) : PE X (.Attribute e f pos) (SlX.tPropSl (He.ga K "Order") sp E0 te) := by
  subst hK
  exact pe_prop he W i h C hr hd hb
theorem k_methO (K : PySem.W.Frag) {pl : Sem Bool} (he : PE X o to) (W : W0 K X.mg X.base) (i j : Nat) (h : methsO[i]? = some (c, m)) (hc : clsO[j]? = some c) (C : Cal X.prog X.w K X.mg X.base k d ps sp) (hr : Room k X.A) (ha : PA X (e :: es) t)
    (hK : X.K = K := by rfl) (hd : d.ad K = He.ma K (He.ga K c) m := by rfl)
    (hst : starEach (e :: es) X.env = (false, eval e X.env) :: starEach es X.env := by rfl) (hpl : (backTo pos (starEach es X.env)).any (·.1) = false := by rfl)
    (ht : eval (.Call (.Attribute o m apos) (e :: es) [] pos) X.env = (do
      let ov ← eval o X.env
      standAt apos.atName
      let (f, first) ← holding [ov] (getMethod ov m pl)
      callWith pos f first (backTo pos (starEach (e :: es) X.env)) (backToKw pos (keywordEach [] X.env))) := by rfl) :
    PE X (.Call (.Attribute o m apos) (e :: es) [] pos) (SlX.tMethSl (He.ga K c) sp E0 to t) := by
  subst hK
  exact pe_methO he W i j h hc C hr ha hd hst hpl ht
theorem k_methO0 (K : PySem.W.Frag) {pl : Sem Bool} (he : PE X o to) (W : W0 K X.mg X.base) (i j : Nat) (h : methsO[i]? = some (c, m)) (hc : clsO[j]? = some c) (C : Cal X.prog X.w K X.mg X.base k d ps sp) (hr : Room k X.A)
    (hK : X.K = K := by rfl) (hd : d.ad K = He.ma K (He.ga K c) m := by rfl)
    (ht : eval (.Call (.Attribute o m apos) [] [] pos) X.env = (do
      let ov ← eval o X.env
      standAt apos.atName
      let (f, first) ← holding [ov] (getMethod ov m pl)
      callWith pos f first (backTo pos (starEach [] X.env)) (backToKw pos (keywordEach [] X.env))) := by rfl) :
    PE X (.Call (.Attribute o m apos) [] [] pos) (SlX.tMethSl (He.ga K c) sp E0 to tNil) := by
  subst hK
  exact pe_methO0 he W i j h hc C hr hd ht
theorem k_new (K : PySem.W.Frag) (C : Cal X.prog X.w K X.mg X.base k d ps sp) (W : W0 K X.mg X.base) (j : Nat) (hc : clsO[j]? = some c) (hr : Room (k + 1) X.A) (hg : Gl X c) (hm : X.mg c = some (.ref (He.ga K c))) (ha : PA X (e :: es) t)
    (hK : X.K = K := by rfl) (hd : d.ad K = He.ma K (He.ga K c) "__init__" := by rfl) (hdb : (c == ("__debug__" : Str)) = false := by decide) (he : starEach (e :: es) X.env = (false, eval e X.env) :: starEach es X.env := by rfl)
    (hpl : (backTo pos (starEach es X.env)).any (·.1) = false := by rfl) : PE X (.Call (.Name c p) (e :: es) [] pos) (tMake (He.ga K c) sp [] E0 t) := by
  subst hK
  exact pe_new C W j hc hr hg hm ha hd hdb he hpl
theorem k_cal (K : PySem.W.Frag) (C : Cal X.prog X.w K X.mg X.base k d ps sp) (hr : Room k X.A) (hg : Gl X x) (hm : X.mg x = some (.ref (d.ad K))) (ha : PA X (e :: es) t) (hK : X.K = K := by rfl) (hdb : (x == ("__debug__" : Str)) = false := by decide)
    (he : starEach (e :: es) X.env = (false, eval e X.env) :: starEach es X.env := by rfl) (hpl : (backTo pos (starEach es X.env)).any (·.1) = false := by rfl) : PE X (.Call (.Name x p) (e :: es) [] pos) (tCall sp [] E0 t) := by
  subst hK
  exact pe_cal C hr hg hm ha hdb he hpl
end
end PR
end
section
set_option Elab.async false
set_option linter.all false
set_option maxRecDepth 100000
set_option maxHeartbeats 4000000
/-! max of a tuple of ints. -/
namespace PR
open PySem PySem.Spec PyProof.Rows L2 Evl
section
variable {prog : Program} {w : World} {A : Around} {E : Value → Shared → Prop} {s : Shared} {l : Addr} {xs : Array (Int × Tok)}
theorem iterT_ints {Q : Value → Shared → Prop} (hl : s.heap.IsTuple l (intItems xs))
    (h : ∀ s₂ : Shared, s₂ = { s with heap := s.heap.push { cls := .type "tuple_iterator", data := .fields #[.ref l, .int 0 0] } } →
      (s₂.heap.IsTupleIter s.heap.objs.size l 0 ∧ s₂.heap.IsTuple l (intItems xs)) → (∀ b ∈ [s.heap.objs.size, l], b < s₂.heap.objs.size) → l ≠ s.heap.objs.size → Q (.ref s.heap.objs.size) s₂) :
    wpAny (model prog w) A (pyIter (.ref l)) Q E s := by
  have hlt : l < s.heap.objs.size := by obtain ⟨_, e, _⟩ := hl; exact Heap.lt_size e
  refine wpAny_pyIter_tuple hl (h _ rfl ⟨⟨_, Heap.get?_push_size _ rfl, rfl, rfl⟩, hl.push _⟩ (fun b hb => ?_) (Nat.ne_of_lt hlt))
  show b < (s.heap.push _).objs.size
  rw [Heap.size_push]
  simp only [List.mem_cons, List.not_mem_nil, or_false] at hb
  rcases hb with rfl | rfl
  · exact Nat.lt_succ_self _
  · exact Nat.lt_succ_of_lt hlt
theorem max_tupI {Q : Value → Shared → Prop} (hh : A.handled = none) (hl : s.heap.IsTuple l (intItems xs)) (hne : 0 < xs.size)
    (h : ∀ v h' tk, (intItems xs)[argBest (fun i j => decide (numAt xs i > numAt xs j)) (xs.size - 1)]? = some v → (∀ b o, s.heap.get? b = some o → h'.get? b = some o) → Q v { s with heap := h', toks := tk }) :
    wpAny (model prog w) A (call (.builtin "max") [.ref l]) Q E s := by
  refine call_max_walk (iterT_ints hl fun s₂ e st hfp hlI => ?_)
  subst e
  refine ⟨_, _, _, _, _, _, _, rfl, Walks.tuple (A := A.in1) hh _ l hlI (intItems xs), st, hfp, by simpa [intItems] using hne, CmpOf.ints_gt (numAt xs) (fun _ _ => intItems_at), fun v h' tk hP hk => ?_⟩
  refine h v h' tk (by simpa [intItems] using hP) fun b o e => hk b o (fun hm => ?_) (Heap.get?_push_of_some _ e)
  rw [List.mem_singleton] at hm
  rw [hm] at e
  exact Nat.lt_irrefl _ (Heap.lt_size e)
theorem max_tupraw {its : List Value} {ns : List Int} {Q : Value → Shared → Prop} (hh : A.handled = none) (hl : s.heap.IsTuple l its.toArray) (hi : IntsAre its ns) (hne : 0 < ns.length)
    (h : ∀ h' tk M t', (∀ b o, s.heap.get? b = some o → h'.get? b = some o) → M ∈ ns → (∀ a, a ∈ ns → a ≤ M) → Q (.int M t') { s with heap := h', toks := tk }) : wpAny (model prog w) A (call (.builtin "max") [.ref l]) Q E s := by
  obtain ⟨xs, e⟩ := hi.allInts.items
  have hn : numsOf (intItems xs).toList = ns := by rw [← e]; exact hi.numsOf
  rw [nums_intItems] at hn
  subst hn
  rw [e] at hl
  refine max_tupI hh hl (by simpa using hne) fun v h' tk hv hk => ?_
  obtain ⟨t, rfl⟩ := intItems_at hv
  obtain ⟨h1, h2⟩ := argBest_gt (numAt xs) (xs.size - 1)
  have hsz : 0 < xs.size := by simpa using hne
  refine h h' tk _ t hk ?_ fun a ha => ?_
  · rw [numAt_eq]
    exact PySem.getD_mem (by rw [List.length_map, Array.length_toList]; omega)
  · obtain ⟨j, hj, rfl⟩ := mem_getD ha
    rw [List.length_map, Array.length_toList] at hj
    rw [← numAt_eq]
    exact h2 j (by omega)
end
section
variable {X : Cx}
def rMaxT (K : PySem.W.Frag) : List V → Hp → VK → Prop := fun vs H Q => ∃ (a : Addr) (ns : List Int), vs = [V.ref a] ∧ SqT K H a (ns.map V.int) ∧ 0 < ns.length ∧ ∀ m, m ∈ ns → (∀ y, y ∈ ns → y ≤ m) → Q (.int m) H
theorem k_maxT (K : PySem.W.Frag) (hc : X.calm = true) (hk : X.K = K := by rfl) : CallR X (.builtin "max") (rMaxT K) := by
  subst hk
  intro pins s σ H vs us Q I r h
  obtain ⟨a, ns, rfl, hs, hne, q⟩ := h
  obtain ⟨its, rv, hl, _⟩ := I.tuple hs
  obtain ⟨u, rfl, ru⟩ := r.one
  cases ru
  exact max_tupraw (I.ok.hd hc) hl rv.ints hne fun h' tk m t' hk h1 h2 => ⟨.int _, H, I.kept hk, ⟨_, rfl⟩, q m h1 h2⟩
end
end PR
end
section
set_option Elab.async false
set_option linter.all false
set_option maxRecDepth 100000
set_option maxHeartbeats 4000000
/-! next of a generator expression with one clause and a default, its test a call. -/
namespace PR
open PySem PySem.Spec PyProof.Rows L2 Evl GenW
/-- the frame of a generator expression as a context -/
abbrev gblk (X : Cx) (A' : Around) (s : Shared) (H : Hp) (cenv : Env) (fp : List Addr) : Cx :=
  { X with A := A', s_0 := s, H_0 := H, env := cenv, outer := X.stack, stack := cenv :: X.stack, ex := fp, fn := fun _ => false, pn := [], xe := fun _ _ => False }
section
variable {X : Cx} {pins : List (Addr × Obj)} {σ : L2.St} {H : Hp} {s : Shared}
theorem gblock_start {scope : Scope} {own : List (Str × Nat)} {fp : List Addr} {A' : Around} {code it : Value} {s' : Shared} (I : Inv X pins σ H s) (ok : BlkOk X.N X.env.scope scope own) (hN : X.N.Nodup) (hfp : ∀ b ∈ fp, FpOk X pins H b ∧ b < s.heap.objs.size)
    (nocell : ∀ y ∈ scope.names, y.2 ≠ .cell) (hA : A'.handled = none) (hfr : A'.frames = some (genEnv scope (cloFrom X.env.cells scope.names []) s.heap.objs.size code builtinsNs X.env :: X.stack))
    (kp : ∀ b o, s.heap.get? b = some o → s'.heap.get? b = some o) (hos : s'.os = s.os) (hg : AllBare s'.gens) (hn : s'.heap.Ns s.heap.objs.size (fun y => if y = (".0" : Str) then some it else none)) :
    Inv (gblk X A' s H (genEnv scope (cloFrom X.env.cells scope.names []) s.heap.objs.size code builtinsNs X.env) fp) [] (wipe σ (own.map (·.2))) H s' := by
  have hfree : ∀ y ∈ scope.names, y.2 = .free → ∃ c, X.env.cells.lookup y.1 = some c := fun y hy e => by
    rcases ok.free y hy e with k | k
    · exact I.ok.has _ (.inl k)
    · exact I.ok.has _ (.inr k)
  generalize hcenv : genEnv scope (cloFrom X.env.cells scope.names []) s.heap.objs.size code builtinsNs X.env = cenv at hfr ⊢
  have hL : cenv.locals = s.heap.objs.size := by rw [← hcenv]; rfl
  have hF : cenv.frame = some cenv.locals := by rw [← hcenv]; rfl
  have hcl : cenv.cells = cloFrom X.env.cells scope.names [] := by rw [← hcenv]; rfl
  have hsc : cenv.scope = scope := by rw [← hcenv]; rfl
  have cm : ∀ {y c}, cenv.cells.lookup y = some c → X.env.cells.lookup y = some c ∧ c < s.heap.objs.size := fun {y c} e => by
    rw [hcl] at e
    rcases cloFrom_mem (PySem.mem_of_lookup e) with hm | ⟨h1, rfl⟩
    · cases hm
    · obtain ⟨c, hc⟩ := hfree _ h1 rfl
      have hc : X.env.cells.lookup y = some c := hc
      rw [hc]
      obtain ⟨w, z⟩ := I.cell _ _ hc
      exact ⟨rfl, z.lt⟩
  have look : ∀ {y}, scope.names.lookup y = some .free → ∃ c, cenv.cells.lookup y = some c ∧ X.env.cells.lookup y = some c := fun {y} hl => by
    have hy : (y, NameKind.free) ∈ scope.names := PySem.mem_of_lookup hl
    obtain ⟨c', e'⟩ := mem_lookup (cloFrom_has (cells := X.env.cells) (acc := []) hy)
    rw [← hcl] at e'
    exact ⟨c', e', (cm e').1⟩
  have okB : (gblk X A' s H cenv fp).Ok := by
    refine ⟨I.ok.mod, by show cenv.scope.kind = _; rw [hsc]; exact ok.kind, by show cenv.globals = _; rw [← hcenv]; exact I.ok.glob, by show cenv.builtins = _; rw [← hcenv]; rfl, by show s.heap.objs.size ≤ cenv.locals; rw [hL]; exact Nat.le_refl _,
      fun y z c e1 e2 => I.ok.inj y z c (cm e1).1 (cm e2).1, fun y hy => ?_, fun y c z e => (nomatch z), fun _ => hA, hfr, .inr ⟨rfl, hF⟩, fun b hb => ⟨?_, fun y c e z => ?_⟩, I.bs, Nat.le_trans I.ok.bsz I.sz, fun b o e hb => ?_, fun b hb z => ?_, I.stack, I.stkFree⟩
    · show ∃ c, cenv.cells.lookup y = some c
      have hy : scope.names.lookup y = some .cell ∨ scope.names.lookup y = some .free := by rw [← hsc]; exact hy
      rcases hy with hy | hy
      · exact absurd rfl (nocell _ (PySem.mem_of_lookup hy))
      · obtain ⟨c, h1, _⟩ := look hy
        exact ⟨c, h1⟩
    · show b ≠ cenv.locals
      rw [hL]; exact Nat.ne_of_lt (hfp b hb).2
    · exact (hfp b hb).1.2.2.2.2.1 y c (cm e).1 z
    · rcases (hfp b hb).1.2.2.2.1 with z | z
      · exact I.ok.noex b o e z
      · exact absurd (Nat.lt_of_lt_of_le (Heap.lt_size e) (Nat.le_trans I.ok.bsz z)) (Nat.lt_irrefl _)
    · rcases List.mem_cons.mp (I.stkSub b z) with z | z
      · exact (hfp b hb).1.2.1 z
      · exact (hfp b hb).1.2.2.1 z
  refine ⟨okB, hos, hg, Un.kept kp, ⟨fun y => if y = (".0" : Str) then some it else none, ?_, fun i y av e1 e2 e3 => ?_⟩, fun y c e => ?_, ?_, fun y c e => ?_, fun p hp => ?_, I.hok.kept kp, by rw [wipe_length]; exact I.len⟩
  · show Heap.Ns _ cenv.locals _
    rw [hL]
    exact hn
  · obtain ⟨e2, hne⟩ := wipe_some e2
    have hfr : scope.names.lookup y = some .free := by
      have e3 : Vis scope y := by rw [← hsc]; exact e3
      have no : ∀ k', scope.names.lookup y = some k' → ¬ (k' = .local ∨ k' = .cell) := fun k' e hh => by
        rcases ok.own _ (PySem.mem_of_lookup e) hh with e' | e'
        · obtain ⟨p, hp, hpy⟩ := List.mem_map.mp e'
          have e3 := ok.ix p hp
          have : p.1 = y := hpy
          rw [this] at e3
          exact hne (List.mem_map.mpr ⟨p, hp, nodup_ix hN e3 e1⟩)
        · exact e' (List.mem_of_getElem? e1)
      rcases e3 with e3 | e3 | e3
      · exact absurd (.inl rfl) (no _ e3)
      · exact absurd (.inr rfl) (no _ e3)
      · exact e3
    obtain ⟨m, hn, hl⟩ := I.loc
    have hvis : Vis X.env.scope y := (ok.free _ (PySem.mem_of_lookup hfr) rfl).elim (fun k => .inr (.inl k)) (fun k => .inr (.inr k))
    obtain ⟨w, r, q⟩ := hl i y av e1 e2 hvis
    refine ⟨w, r, .inr ⟨.inr (by show cenv.scope.names.lookup y = _; rw [hsc]; exact hfr), ?_⟩⟩
    obtain ⟨c, h1, h2⟩ := look hfr
    rcases q with ⟨k, _⟩ | ⟨_, c', e', z⟩
    · have k : X.env.scope.names.lookup y = some .local := k
      rcases ok.free _ (PySem.mem_of_lookup hfr) rfl with k' | k' <;> rw [show X.env.scope.names.lookup y = _ from k'] at k <;> cases k
    · rw [h2] at e'; cases e'
      exact ⟨c, h1, z.keeps kp⟩
  · obtain ⟨w, z⟩ := I.cell y c (cm e).1
    exact ⟨w, z.keeps kp⟩
  · show H cenv.locals = none
    rw [hL]; exact I.hok.fresh (Nat.le_refl _)
  · exact I.freeC y c (cm e).1
  · exact absurd (show p ∈ ([] : List (Addr × Obj)) ++ [] from hp) (by simp)
end
/-- the around of a generator expression's code -/
theorem over_gen {A : Around} {elt : Expr} {gs : List Comprehension} {scope : Scope} {pos : Pos} {it acc : Value} {env : Env} : A.over (.compLoop (.GeneratorExp elt gs scope pos) 0 it acc env) [] = A.deeper env := by
  first
    | rfl
    | (obtain ⟨hd, d, fr, gs, u⟩ := A; simp [Around.over, Around.deeper, marksOver, frameCount, unitsOf, envsOf, guardsOf, pushEnvs, pushGuards, Code.envs, Code.env?, Code.isFrame, Code.guards, Code.isGuard, Code.weight, Code.frames, Code.isCreation, Code.isCaller, Code.cUnits])
theorem over_gen0 {A : Around} {elt : Expr} {gs : List Comprehension} {scope : Scope} {pos : Pos} {it acc : Value} {env : Env} : A.over (.compStart (.GeneratorExp elt gs scope pos) 0 it acc env) [] = A.deeper env := by
  first
    | rfl
    | (obtain ⟨hd, d, fr, gs, u⟩ := A; simp [Around.over, Around.deeper, marksOver, frameCount, unitsOf, envsOf, guardsOf, pushEnvs, pushGuards, Code.envs, Code.env?, Code.isFrame, Code.guards, Code.isGuard, Code.weight, Code.frames, Code.isCreation, Code.isCaller, Code.cUnits])
/-- next((elt for tg in iter if c), None): ended at the first item that passes; the table of the def's code may have grown -/
def tNextG (Pt : Addr) (wi : TI) (g : TG) (tt : TT) (te : TE) (vs : List Nat) : TE := fun σ H Q => wi σ H fun J H1 => GxR.TabG H1 Pt ∧ ∀ H2, GxR.Tabbed Pt H1 H2 → ∃ W : Nat → Nat → Hp → Prop, (∃ m, W 0 m H2) ∧ ∀ i m H, W i m H →
  (J.stop i H ∧ Q .non H) ∨ (J.go i H ∧ ∃ Nx : Hp → Prop, (∀ H', Nx H' → ∃ m', m' < m ∧ W (i + 1) m' H') ∧ ∀ x H', J.yld i H x H' → g x (wipe σ vs) H' fun σ2 H2 => wipe σ2 vs = wipe σ vs ∧ tt σ2 H2 fun b H3 =>
    if b = true then te σ2 H3 fun y H4 => Q y H4 else Nx H3)
/-- the items of a generator expression's run: one is enough -/
def YNext (X : Cx) (Q : VK) : Protocol := fun _ _ v s₁ _ => ∃ y pins σ H, Inv X pins σ H s₁ ∧ RelV y v ∧ Q y H
def RNext (X : Cx) (Q : VK) : GenEnd := fun _ _ r s₁ => r = .ok .next ∧ ∃ pins σ H, Inv X pins σ H s₁ ∧ Q .non H
section
variable {X : Cx}
/-- the generator's own run, up to its first item or its end -/
theorem seg_nextG {A : Around} {elt tg iter : Expr} {ifs : List Expr} {scope : Scope} {pos : Pos} {it : Addr} {fp : List Addr} {tn : Nat → Heap → Prop} {J : It} {g : TG} {tt : TT} {te : TE} {vs : List Nat} {σ : L2.St} {Q : VK} {W : Nat → Nat → Hp → Prop}
    (hA : A.deeper X.env = X.A) (hc : X.calm = true) (hpn : X.pn = []) (hco : X.env.scope.isCoroutine = false) (T : Turn X.prog X.w X.K tg J fp it tn) (pg : PG X tg g) (pt : PTs X ifs tt) (pe : PE X elt te)
    (hxe : X.xe = fun _ _ => False) (hfx : ∀ b ∈ fp, b ∈ X.ex)
    (turn : ∀ i m H, W i m H → (J.stop i H ∧ Q .non H) ∨ (J.go i H ∧ ∃ Nx : Hp → Prop, (∀ H', Nx H' → ∃ m', m' < m ∧ W (i + 1) m' H') ∧ ∀ x H', J.yld i H x H' → g x (wipe σ vs) H' fun σ2 H2 => wipe σ2 vs = wipe σ vs ∧ tt σ2 H2 fun b H3 =>
      if b = true then te σ2 H3 fun y H4 => Q y H4 else Nx H3)) :
    ∀ (m i : Nat) (s₀ s : Shared) (H : Hp), W i m H → Inv X [] (wipe σ vs) H s → tn i s.heap → (∀ b ∈ fp, H b = none) →
      Seg (model X.prog X.w) A (RNext X Q) (YNext X Q) 1 s₀ (.compLoop (.GeneratorExp elt [⟨tg, iter, ifs, 0⟩] scope pos) 0 (.ref it) .none X.env)
        ((model X.prog X.w).den (.compLoop (.GeneratorExp elt [⟨tg, iter, ifs, 0⟩] scope pos) 0 (.ref it) .none X.env)) [] s := by
  have hov : A.over (.compLoop (.GeneratorExp elt [⟨tg, iter, ifs, 0⟩] scope pos) 0 (.ref it) .none X.env) [] = X.A := over_gen.trans hA
  have stat : ∀ {σ' : L2.St} {H' : Hp} {s' : Shared}, Inv X [] σ' H' s' → (∀ b ∈ fp, H' b = none) → ∀ b ∈ fp, FpOk X [] H' b := fun {σ' H' s'} I' hn b hb =>
    ⟨hn b hb, (I'.ok.exf b (hfx b hb)).1, I'.ok.exfs b (hfx b hb), .inl (hfx b hb), fun x c e => (I'.ok.exf b (hfx b hb)).2 x c e, fun p hp => absurd (show p ∈ ([] : List (Addr × Obj)) by rw [hpn] at hp; simpa using hp) (by simp)⟩
  intro m
  induction m using Nat.strongRecOn with
  | ind m ih =>
  intro i s₀ s5 H5 w5 I5 st5 n5
  show Seg _ A _ _ _ s₀ _ ((compTurn (.GeneratorExp elt [⟨tg, iter, ifs, 0⟩] scope pos) 0 (.ref it) .none X.env).onRaise (leaving X.env)) [] s5
  rw [compTurn_gen, Sem.onRaise_eq_wrap]
  refine seg_bind_wrap (wpAny_standAt ?_)
  rcases turn i m H5 w5 with ⟨stop, qq⟩ | ⟨go, Nx, hNx, step⟩
  · have td := T.done X rfl rfl rfl hc i [] s5 _ H5 (fun _ _ => False) I5 (stat I5 n5) st5 stop
    refine seg_bind_wrap ?_
    rw [hov]
    refine thnF td fun r s6 ⟨hr, I6⟩ => ?_
    subst hr
    exact seg_end (.ok .next) ⟨rfl, _, _, _, I6, qq⟩
  · have ti := T.item X rfl rfl rfl hc i [] s5 _ H5 (fun _ _ => False) I5 (stat I5 n5) st5 go
    refine seg_bind_wrap ?_
    rw [hov]
    refine thnF ti fun r s6 ⟨u, hr, h6⟩ => ?_
    subst hr
    refine seg_bind_wrap ?_
    rw [hov]
    refine thnF h6 fun _ s7 ⟨x, H7, I7, r7, y7, st7, n7⟩ => ?_
    have I7' := I7.pinned (stat I7 n7) (T.obj _ _ st7)
    have fls : ∀ {α : Type} {t : Sem α} {Q' Q'' : α → Shared → Prop} {E : Value → Shared → Prop} {s : Shared}, wpAny (model X.prog X.w) X.A t Q' X.xe s → (∀ a s, Q' a s → Q'' a s) → wpAny (model X.prog X.w) X.A t Q'' E s := fun {α t Q' Q'' E s} h hQ => wpAny_mono h hQ fun _ _ z => by
      rw [hxe] at z
      exact False.elim z
    refine seg_bind_wrap ?_
    rw [hov]
    refine fls (pg.run _ s7 _ H7 x u _ I7' r7 (step x H7 y7)) fun _ s8 ⟨σ8, H8, I8, hw8, q8⟩ => ?_
    refine seg_bind_wrap ?_
    rw [hov]
    refine fls (pt.run _ s8 σ8 H8 _ I8 q8) fun b s9 ⟨H9, I9, q9⟩ => ?_
    cases b with
    | false =>
      simp only [Bool.false_eq_true, if_false] at q9 ⊢
      obtain ⟨m', hm, w'⟩ := hNx H9 q9
      have pin' : ∀ b ∈ fp, ∀ o, s7.heap.get? b = some o → s9.heap.get? b = some o ∧ H9 b = none := fun b hb o e =>
        let z := I9.pin (b, o) (List.mem_append_right _ (List.mem_append_right _ (mem_pinsAt hb e)))
        ⟨z.1, z.2.1⟩
      have hl : (wipe σ vs).length = σ8.length := by rw [← hw8, wipe_length]
      refine seg_again rfl (ih m' hm (i + 1) s₀ s9 H9 w' ((I9.unpinned (pins := [])).weak hl fun j v e => ?_) (T.keep _ _ _ st7 fun b hb o e => (pin' b hb o e).1) fun b hb => ?_)
      · rw [← hw8] at e
        exact (wipe_some e).1
      · obtain ⟨o, e, _⟩ := T.obj _ _ st7 b hb
        exact (pin' b hb o e).2
    | true =>
      simp only [if_true] at q9 ⊢
      have hy : ∀ v, yieldOut X.env v = yieldValue v := fun v => by simp only [yieldOut, hco, Bool.false_eq_true, if_false]
      simp only [hy]
      rw [Sem.bind_eq_wrap', Sem.bind_eq_wrap', Sem.wrap_wrap, Sem.wrap_wrap]
      refine seg_wrap ?_
      rw [hov]
      refine fls (pe.run _ s9 σ8 H9 _ I9 q9) fun z s10 ⟨yv, H10, I10, r10, q10⟩ => ?_
      exact seg_at (seg_yield rfl rfl rfl ⟨yv, _, _, H10, I10, r10, q10⟩)
theorem seg_nextG0 {A : Around} {elt tg iter : Expr} {ifs : List Expr} {scope : Scope} {pos : Pos} {it : Addr} {fp : List Addr} {tn : Nat → Heap → Prop} {J : It} {R : GenEnd} {Y : Protocol} {n : Nat} {s₀ s : Shared} (T : Turn X.prog X.w X.K tg J fp it tn) (st : tn 0 s.heap)
    (h : Seg (model X.prog X.w) A R Y n s₀ (.compLoop (.GeneratorExp elt [⟨tg, iter, ifs, 0⟩] scope pos) 0 (.ref it) .none X.env)
        ((model X.prog X.w).den (.compLoop (.GeneratorExp elt [⟨tg, iter, ifs, 0⟩] scope pos) 0 (.ref it) .none X.env)) [] s) :
    Seg (model X.prog X.w) A R Y n s₀ (.compStart (.GeneratorExp elt [⟨tg, iter, ifs, 0⟩] scope pos) 0 (.ref it) .none X.env)
        ((model X.prog X.w).den (.compStart (.GeneratorExp elt [⟨tg, iter, ifs, 0⟩] scope pos) 0 (.ref it) .none X.env)) [] s := by
  show Seg _ A _ _ _ s₀ _ ((compStart (.GeneratorExp elt [⟨tg, iter, ifs, 0⟩] scope pos) 0 (.ref it) .none X.env).onRaise (leaving X.env)) [] s
  unfold compStart
  rw [Sem.onRaise_eq_wrap]
  show Seg _ A _ _ _ s₀ _ ((ask >>= _).wrap _ _ _ _) [] s
  refine seg_bind_wrap (wpAny_askSetting ?_)
  split
  · exact seg_again rfl h
  · first
      | exact seg_bind_wrap (wpAny_rule (seg_bind_wrap (wpAny_standAt (seg_bind_wrap (T.self _ 0 s _ _ st (seg_again rfl h))))))
      | (refine seg_bind_wrap (wpAny_rule ?_); show Seg _ A _ _ _ s₀ _ ((standAt iter.pos >>= _).wrap _ _ _ _) [] s; exact seg_bind_wrap (wpAny_standAt (seg_bind_wrap (T.self _ 0 s _ _ st (seg_again rfl h)))))
/-- the generator is made -/
theorem gen_made {pins : List (Addr × Obj)} {σ : L2.St} {H : Hp} {s : Shared} {c Pt : Addr} {elt tg iter : Expr} {ifs : List Expr} {scope : Scope} {own : List (Str × Nat)} {gpos : Pos} {wi : TI} {R : It → Hp → Prop} {Q' : Value → Shared → Prop}
    (hd : X.A.depth < recursionLimit) (TB : GxR.TabB X.base X.mg c Pt) (hcode : X.env.code = .ref c) (ok : BlkOk X.N X.env.scope scope own) (nocell : ∀ y ∈ scope.names, y.2 ≠ .cell) (hco : scope.isCoroutine = false) (dot : scope.names.lookup (".0" : Str) = some NameKind.local)
    (hi : PI X tg iter wi) (hs : ∀ v, genFold iter X.env v = pure v) (I : Inv X pins σ H s) (h : wi σ H R) (hR : ∀ J H1, R J H1 → GxR.TabG H1 Pt)
    (hQ : ∀ (J : It) (H1 H2 : Hp) (it : Addr) (fp : List Addr) (tn : Nat → Heap → Prop) (code : Value) (s4 s5 : Shared) (a : Addr) (n : Nat), R J H1 → GxR.Tabbed Pt H1 H2 → Inv X pins σ H2 s4 → Turn X.prog X.w X.K tg J fp it tn → tn 0 s4.heap → (∀ b ∈ fp, FpOk X pins H2 b ∧ b < s4.heap.objs.size) →
      s5.os = s4.os → (∀ b o, s4.heap.get? b = some o → s5.heap.get? b = some o) → s5.heap.IsGen a n → s5.gens[n]? = some (.fresh (.compStart (.GeneratorExp elt [⟨tg, iter, ifs, 0⟩] scope gpos) 0 (.ref it) .none (genEnv scope (cloFrom X.env.cells scope.names []) s4.heap.objs.size code builtinsNs X.env))) → AllBare s5.gens →
      s5.heap.Ns s4.heap.objs.size (fun y => if y = (".0" : Str) then some (.ref it) else none) → Q' (.ref a) s5) :
    wpAny (model X.prog X.w) X.A (eval (.GeneratorExp elt [⟨tg, iter, ifs, 0⟩] scope gpos) X.env) Q' X.xe s := by
  have hfree : ∀ y ∈ scope.names, y.2 = .free → ∃ c, X.env.cells.lookup y.1 = some c := fun y hy e => by
    rcases ok.free y hy e with k | k
    · exact I.ok.has _ (.inl k)
    · exact I.ok.has _ (.inr k)
  refine wpAny_GeneratorExp_make hco (closure_ok hfree) nocell dot ok.kind hd (thn (hi.run pins s σ H _ I h) fun xv s1 hx => thn hx fun itv s2 h2 => ?_) hs
  obtain ⟨it, fp, tn, J, H1, e, I2, T, st2, f2, q⟩ := h2
  subst e
  refine ⟨I2.nolimit, ?_⟩
  obtain ⟨ps, hP, ht⟩ := hR J H1 q
  have hPs : s2.heap.get? Pt = some { cls := .none, data := .fields ps } := I2.hok Pt _ hP
  have cd : PySem.W.CodeHd s2.heap c Pt := TB.code.keeps fun b u e => I2.bk b u e
  have cont : ∀ (code : Value) (h3 : Heap) (tk : Nat) (ps' : Array Value), Heap.ExtBut Pt s2.heap h3 → s2.heap.objs.size ≤ h3.objs.size → h3.get? Pt = some { cls := .none, data := .fields ps' } → (∃ more, ps' = ps ++ more) → TriplesOk ps'.toList →
      wpAny (model X.prog X.w) X.A (builtinsFor X.env.globals X.env.builtins) (fun bi s₄ =>
        ∀ h', h'.Ns s₄.heap.objs.size (fun y => if y = ".0" then some (.ref it) else none) → Heap.SameBut s₄.heap.objs.size (s₄.heap.push { cls := .type "frame", data := .dict #[] }) h' →
          Q' (.ref h'.objs.size) { s₄ with
            gens := s₄.gens.push (.fresh (.compStart (.GeneratorExp elt [⟨tg, iter, ifs, 0⟩] scope gpos) 0 (.ref it) .none (genEnv scope (cloFrom X.env.cells scope.names []) s₄.heap.objs.size code bi X.env))),
            toks := s₄.toks + 1 + 1 + 1,
            heap := h'.push { cls := .type "generator", data := .fields #[.int s₄.gens.size 0, .str "<genexpr>" (s₄.toks + 1), .str (X.env.qual ++ "<genexpr>") (s₄.toks + 1 + 1)] } }) X.xe { s2 with heap := h3, toks := tk } := by
    intro code h3 tk ps' hx hsz hP3 hmore ht3
    obtain ⟨bm, ob, e1, e2, e3, e4, e5, e6, e7, e8⟩ := TB.bm
    have keep3 : ∀ b u, b ≠ Pt → s2.heap.get? b = some u → h3.get? b = some u := fun b u hb e => hx b u hb e
    refine wpAny_builtinsFor (m := X.mg) (by rw [I2.ok.glob]; exact (I2.mod.glob.keeps I2.bk).extBut hx TB.gP) e1 e2 (keep3 _ _ e4 (I2.bk _ _ e5)) e6 e7 e8 ?_
    obtain ⟨more, em⟩ := hmore
    have J2 := GxR.inv_tab (more := more) (h' := h3) (g' := s2.gens) (d' := s2.drawn) (t' := tk) I2 hP keep3 (by rw [← em]; exact hP3) I2.bare
    intro h' hn' hs'
    have hn' : h'.Ns h3.objs.size (fun y => if y = ".0" then some (.ref it) else none) := hn'
    have hs' : Heap.SameBut h3.objs.size (h3.push { cls := .type "frame", data := .dict #[] }) h' := hs'
    have nP : ∀ b ∈ fp, b ≠ Pt := fun b hb z => by
      have := (f2 b hb).1
      rw [z, hP] at this
      cases this
    have szf : ∀ b ∈ fp, b < s2.heap.objs.size := fun b hb => by
      obtain ⟨o, e, _⟩ := T.obj _ _ st2 b hb
      exact Heap.lt_size e
    have kp : ∀ b o, h3.get? b = some o → (h'.push { cls := .type "generator", data := .fields #[.int s2.gens.size 0, .str "<genexpr>" (tk + 1), .str (X.env.qual ++ "<genexpr>") (tk + 1 + 1)] }).get? b = some o := fun b o e =>
      Heap.get?_push_of_some _ (hs'.extBut b o (Nat.ne_of_lt (Heap.lt_size e)) (Heap.get?_push_of_some _ e))
    refine hQ J H1 _ it fp tn code _ _ _ s2.gens.size q ⟨⟨_, upd_same, by rw [← em]; exact ht3⟩, fun b hb => upd_ne hb⟩ J2 T (T.keep _ _ _ st2 fun b hb o e => keep3 b o (nP b hb) e) (fun b hb => ⟨⟨?_, (f2 b hb).2⟩, ?_⟩) rfl kp ⟨_, _, _, Heap.get?_push_size _ rfl, rfl, rfl, rfl⟩ (Array.getElem?_push_size ..) (AllBare.push I2.bare rfl) (hn'.push _)
    · rw [upd_ne (nP b hb)]
      exact (f2 b hb).1
    · show b < h3.objs.size
      exact Nat.lt_of_lt_of_le (szf b hb) hsz
  cases hf : codeAmong gpos ps.toList with
  | none =>
    refine wpAny_genexprCodeX hcode (cd.code hPs ht) (cd.tab hPs) hf fun c' h' tk hx hge hlt hco' _ htab' _ => ?_
    obtain ⟨o1, vs, f1, tf, fl, tg, inF, tx, tt, op, _, _, _, _, _, _, _, _, _, htr, _⟩ := hco'
    exact cont _ h' tk _ hx (Nat.le_trans hge (Nat.le_of_lt hlt)) htab'.2 ⟨_, rfl⟩ htr
  | some cv =>
    refine wpAny_genexprCode_hit hcode (cd.code hPs ht) hf ?_
    exact cont cv s2.heap s2.toks ps (Heap.ExtBut.refl _ _) (Nat.le_refl _) hPs ⟨#[], by simp⟩ ht
/-- next(.., None) -/
theorem pe_nextG {c Pt : Addr} {elt tg iter : Expr} {ifs : List Expr} {scope : Scope} {own : List (Str × Nat)} {p pos gpos cpos : Pos} {cj : Nat} {wi : TI} {g : TG} {tt : TT} {te : TE} {k : Nat}
    (hc : X.calm = true) (hr : Room (k + 3) X.A) (hgl : Gl X "next") (hm : X.mg "next" = none) (TB : GxR.TabB X.base X.mg c Pt) (hcode : X.env.code = .ref c) (hN : X.N.Nodup) (ok : BlkOk X.N X.env.scope scope own) (nocell : ∀ y ∈ scope.names, y.2 ≠ .cell) (hco : scope.isCoroutine = false) (dot : scope.names.lookup (".0" : Str) = some NameKind.local)
    (hi : PI X tg iter wi)
    (hg : ∀ (A' : Around) (sh : Shared) (Hh : Hp) (C : Addr) (code : Value) (fp : List Addr), Room k A' → PG (gblk X A' sh Hh (genEnv scope (cloFrom X.env.cells scope.names []) C code builtinsNs X.env) fp) tg g)
    (ht : ∀ (A' : Around) (sh : Shared) (Hh : Hp) (C : Addr) (code : Value) (fp : List Addr), Room k A' → PTs (gblk X A' sh Hh (genEnv scope (cloFrom X.env.cells scope.names []) C code builtinsNs X.env) fp) ifs tt)
    (he : ∀ (A' : Around) (sh : Shared) (Hh : Hp) (C : Addr) (code : Value) (fp : List Addr), Room k A' → PE (gblk X A' sh Hh (genEnv scope (cloFrom X.env.cells scope.names []) C code builtinsNs X.env) fp) elt te)
    (hs : ∀ v, genFold iter X.env v = pure v := by intro _; rfl)
    (hse : starEach [.GeneratorExp elt [⟨tg, iter, ifs, 0⟩] scope gpos, .Constant .none cj cpos] X.env = [(false, eval (.GeneratorExp elt [⟨tg, iter, ifs, 0⟩] scope gpos) X.env), (false, eval (.Constant .none cj cpos) X.env)] := by rfl) :
    PE X (.Call (.Name "next" p) [.GeneratorExp elt [⟨tg, iter, ifs, 0⟩] scope gpos, .Constant .none cj cpos] [] pos) (tNextG Pt wi g tt te (own.map (·.2))) := by
  refine ⟨fun pins s σ H Q I h => ?_⟩
  refine wpAny_Call_Name_kw (ld_blt I hgl hm bb_next ?_)
  rw [hse]
  refine Calls.callWith_builtin rfl (Calls.evalArgs_plain (Calls.spliced_cons ?_))
  refine gen_made hr.depth TB hcode ok nocell hco dot hi hs I h (fun J H1 q => q.1) fun J H1 H2 it fp tn code s4 s5 a n q hT I4 T st4 f4 hos kp hg5 hgs hb5 hns => ?_
  obtain ⟨W, ⟨m0, w0⟩, turn⟩ := q.2 H2 hT
  refine Calls.spliced_cons (Constant_none (k := cj) (pos := cpos) ?_)
  refine Calls.spliced_nil ?_
  refine Calls.call_function_entry (by decide +kernel) (by decide +kernel) PySem.W.kdk_entry_next (PySem.W.kdk_args_next2 _ _) ?_
  unfold Builtin.«next»
  refine wpAny_bind (m := someArgs "next" 1 2 _) (wpAny_of_eq (a := [Value.ref a, .none]) (by first | rfl | kernel_rfl!) ?_)
  dsimp only
  refine wpAny_bind (wpAny_specialOf (name := Str.ofString "__next__") hg5.typeIs slot_gen_next.lookup ?_)
  refine wpAny_ite_split (fun hab => absurd hab (by decide)) (fun _ => ?_)
  -- the run
  have hAr : Room k (X.A.in1.in1.deeper (genEnv scope (cloFrom X.env.cells scope.names []) s4.heap.objs.size code builtinsNs X.env)) := hr.in1.in1.deeper _
  have I5 := gblock_start (A' := X.A.in1.in1.deeper (genEnv scope (cloFrom X.env.cells scope.names []) s4.heap.objs.size code builtinsNs X.env)) (code := code) (it := .ref it) (s' := s5.setGen n .running) I4 ok hN f4 nocell hAr.hd
    (Around.frames_deeper (A := X.A.in1.in1) I4.ok.frames) kp hos (allBare_setGen hb5 rfl) hns
  have seg := seg_nextG (X := gblk X (X.A.in1.in1.deeper (genEnv scope (cloFrom X.env.cells scope.names []) s4.heap.objs.size code builtinsNs X.env)) s4 H2 (genEnv scope (cloFrom X.env.cells scope.names []) s4.heap.objs.size code builtinsNs X.env) fp) (A := X.A.in1.in1) (iter := iter) (scope := scope) (pos := gpos) (Q := Q) (σ := σ) (vs := own.map (·.2)) (W := W) rfl hc rfl hco T
    (hg _ _ _ _ _ _ hAr) (ht _ _ _ _ _ _ hAr) (he _ _ _ _ _ _ hAr) rfl (fun b hb => hb) turn m0 0 (s5.setGen n .running) (s5.setGen n .running) H2 w0 I5 (T.keep _ _ _ st4 fun b _ o e => kp b o e) (fun b hb => (f4 b hb).1.1)
  have back : ∀ {pins' σ' H'} {s6 s7 : Shared}, Inv (gblk X (X.A.in1.in1.deeper (genEnv scope (cloFrom X.env.cells scope.names []) s4.heap.objs.size code builtinsNs X.env)) s4 H2 (genEnv scope (cloFrom X.env.cells scope.names []) s4.heap.objs.size code builtinsNs X.env) fp) pins' σ' H' s6 → s7.os = s6.os → (∀ b o, s6.heap.get? b = some o → s7.heap.get? b = some o) → AllBare s7.gens → Inv X pins σ H' s7 := fun I6 e1 e2 e3 =>
    I4.call' (ch := fp) (e1.trans I6.os) (I6.base.trans (Un.kept e2)) (I6.hok.kept e2) e3 fun b hb => ⟨(f4 b hb).1.2.2.2.1, (f4 b hb).1.2.1, (f4 b hb).1.2.2.2.2.1, (f4 b hb).1.2.2.2.2.2⟩
  have l5 : s5.heap.NoLimit := I4.nolimit.keeps kp
  refine wpAny_bind (wpAny_pyNext_genexpQ (A := X.A.in1) (n := 1) (P := fun _ _ s₁ => ∃ pins' σ' H', Inv (gblk X (X.A.in1.in1.deeper (genEnv scope (cloFrom X.env.cells scope.names []) s4.heap.objs.size code builtinsNs X.env)) s4 H2 (genEnv scope (cloFrom X.env.cells scope.names []) s4.heap.objs.size code builtinsNs X.env) fp) pins' σ' H' s₁ ∧ Q .non H') (Y := YNext (gblk X (X.A.in1.in1.deeper (genEnv scope (cloFrom X.env.cells scope.names []) s4.heap.objs.size code builtinsNs X.env)) s4 H2 (genEnv scope (cloFrom X.env.cells scope.names []) s4.heap.objs.size code builtinsNs X.env) fp) Q) hr.hd l5 hr.depth hg5 hgs ⟨rfl, seg_nextG0 (X := gblk X (X.A.in1.in1.deeper (genEnv scope (cloFrom X.env.cells scope.names []) s4.heap.objs.size code builtinsNs X.env)) s4 H2 (genEnv scope (cloFrom X.env.cells scope.names []) s4.heap.objs.size code builtinsNs X.env) fp) T (T.keep _ _ _ st4 fun b _ o e => kp b o e) seg⟩ (fun v s₁ gs' hb hv => ?_) (fun s₁ hp h' hk => ?_))
  · obtain ⟨y, pins', σ', H', I6, ry, qy⟩ := hv
    exact wpAny_pure ⟨_, rfl, y, H', back I6 rfl (fun _ _ e => e) (allBare_setGen I6.bare hb), ry, qy⟩
  · obtain ⟨pins', σ', H', I6, qy⟩ := hp
    exact wpAny_pure ⟨_, rfl, .non, H', back I6 rfl hk (allBare_setGen I6.bare rfl), rfl, qy⟩
end
end PR
end
section
set_option Elab.async false
set_option linter.all false
set_option maxRecDepth 100000
set_option maxHeartbeats 4000000
/-! for over a generator def's generator, the loop's body one store: the caller's frame changes while the generator sleeps. -/
namespace PR
open PySem PySem.Spec PyProof.Rows L2 Evl GenW
def setL (s : Shared) (a : Addr) (o : Obj) : Shared := { s with heap := s.heap.update a fun _ => o }
theorem setL_ne {s : Shared} {a b : Addr} {o : Obj} (h : b ≠ a) : (setL s a o).heap.get? b = s.heap.get? b := Heap.get?_update_other _ _ (Ne.symm h)
theorem setL_eq {s : Shared} {a : Addr} {o o0 : Obj} (e : s.heap.get? a = some o0) (hf : o.isFreed = false) : (setL s a o).heap.get? a = some o := Heap.get?_update_self _ e hf
theorem setL_sz {s : Shared} {a : Addr} {o : Obj} : (setL s a o).heap.objs.size = s.heap.objs.size := Heap.size_update ..
theorem notFreed {h : Heap} {a : Addr} {o : Obj} (e : h.get? a = some o) : o.isFreed = false := (Heap.get?_some_iff.mp e).2
/-- the context, the frame at L as o -/
abbrev bX (X : Cx) (L : Addr) (o : Obj) : Cx := { X with s_0 := setL X.s_0 L o }
/-- the frame at L is a caller's -/
structure FrAt (X : Cx) (L : Addr) : Prop where
  mem : L ∈ X.fs
  there : ∃ o, X.s_0.heap.get? L = some o
  ne : L ≠ X.env.locals
  cell : ∀ x c, X.env.cells.lookup x = some c → c ≠ L
  ex : X.ex = []
/-- while the generator slept the frame at L became o -/
structure Wake (L : Addr) (o : Obj) (s s' : Shared) : Prop where
  os : s'.os = s.os
  bare : AllBare s'.gens
  keep : ∀ b u, b ≠ L → s.heap.get? b = some u → s'.heap.get? b = some u
  at_ : s'.heap.get? L = some o
  nf : ∀ vs, o.data ≠ .fields vs
theorem funs_set {h h' base : Heap} {L : Addr} {o : Obj} (k : ∀ b u, b ≠ L → h.get? b = some u → h'.get? b = some u) (e : h'.get? L = some o) (nf : ∀ vs, o.data ≠ .fields vs) : ∀ {l : List Env}, h.FunFrames base l → h'.FunFrames base l
  | [], _ => trivial
  | env :: r, ⟨hk, ⟨a, u, hf, hn, ho, hd⟩, hr⟩ => by
    refine ⟨hk, ?_, funs_set k e nf hr⟩
    by_cases z : a = L
    · subst z
      exact ⟨a, o, hf, hn, e, nf⟩
    · exact ⟨a, u, hf, hn, k a u z ho, hd⟩
theorem wokenB {X : Cx} {L : Addr} {o o' : Obj} {ip : List (Addr × Obj)} {σ : L2.St} {H : Hp} {s s' : Shared} (A : FrAt X L) (I : Inv (bX X L o) ip σ H s) (w : Wake L o' s s') : Inv (bX X L o') ip σ H s' := by
  have hm : L ∈ (bX X L o).fs := A.mem
  have hex : ∀ b, b ∉ (bX X L o).ex := fun b hb => by
    rw [show (bX X L o).ex = [] from A.ex] at hb
    cases hb
  obtain ⟨o0, e0⟩ := A.there
  have eL : (setL X.s_0 L o').heap.get? L = some o' := setL_eq e0 (notFreed w.at_)
  have nb : ∀ b u, X.base.get? b = some u → b ≠ L := fun b u e z => I.ok.nofr e (z ▸ hm)
  have H0 : X.H_0 L = none := I.ok.frf L hm
  obtain ⟨_, oL, hoL, _⟩ := I.ok.funs.mem hm
  have HL : H L = none := I.base.free L oL hoL H0 (hex L)
  have swap : ∀ {b u}, b ≠ L → (setL X.s_0 L o').heap.get? b = some u → (setL X.s_0 L o).heap.get? b = some u := fun {b u} hb e => by
    rw [setL_ne hb] at e ⊢
    exact e
  refine ⟨⟨I.ok.mod, I.ok.kind, I.ok.glob, I.ok.blt, ?_, I.ok.inj, I.ok.has, fun x c h1 h2 => ?_, I.ok.hd, I.ok.frames, I.ok.stk, I.ok.exf, fun b u e => ⟨?_, (I.ok.bs b u e).2⟩, ?_, I.ok.noex, I.ok.exfs, ?_, I.ok.frf⟩,
    w.os.trans I.os, w.bare, ⟨fun b u e n hb hx => ?_, fun b u e n hb hx => ?_, fun b u e n hx => ?_, fun b u e hx => ?_, I.base.tups, I.base.frzs, I.base.tbls⟩, ?_, fun x c e => ?_, I.free, I.freeC, fun p hp => ?_, fun b u e => ?_, I.len⟩
  · have z := I.ok.above
    rw [show (bX X L o).s_0.heap.objs.size = X.s_0.heap.objs.size from setL_sz] at z
    show (setL X.s_0 L o').heap.objs.size ≤ _
    rw [setL_sz]
    exact z
  · have z := I.ok.cab x c h1 h2
    rw [show (bX X L o).s_0.heap.objs.size = X.s_0.heap.objs.size from setL_sz] at z
    show (setL X.s_0 L o').heap.objs.size ≤ _
    rw [setL_sz]
    exact z
  · have z := (I.ok.bs b u e).1
    rw [show (bX X L o).s_0.heap.get? b = X.s_0.heap.get? b from setL_ne (nb b u e)] at z
    show (setL X.s_0 L o').heap.get? b = _
    rw [setL_ne (nb b u e)]
    exact z
  · have z := I.ok.bsz
    rw [show (bX X L o).s_0.heap.objs.size = X.s_0.heap.objs.size from setL_sz] at z
    show _ ≤ (setL X.s_0 L o').heap.objs.size
    rw [setL_sz]
    exact z
  · refine funs_set (L := L) (o := o') (fun b u hb e => ?_) eL w.nf I.ok.funs
    have e : (setL X.s_0 L o).heap.get? b = some u := e
    show (setL X.s_0 L o').heap.get? b = some u
    rw [setL_ne hb] at e ⊢
    exact e
  · have hb' : b ≠ L := fun z => hb (z ▸ hm)
    exact w.keep b u hb' (I.base.keep b u (swap hb' e) n hb hx)
  · by_cases z : b = L
    · subst z
      have e : (setL X.s_0 b o').heap.get? b = some u := e
      rw [eL] at e
      cases e
      exact ⟨o'.slots, w.at_⟩
    · obtain ⟨sl, e1⟩ := I.base.slot b u (swap z e) n hb hx
      exact ⟨sl, w.keep b _ z e1⟩
  · by_cases z : b = L
    · rw [z]
      exact HL
    · exact I.base.free b u (swap z e) n hx
  · by_cases z : b = L
    · rw [z]
      exact ⟨o', w.at_⟩
    · obtain ⟨u', e1⟩ := I.base.there b u (swap z e) hx
      exact ⟨u', w.keep b u' z e1⟩
  · obtain ⟨m, hn, hl⟩ := I.loc
    refine ⟨m, hn.at' fun u e => w.keep _ u (Ne.symm A.ne) e, fun i x v e1 e2 e3 => ?_⟩
    obtain ⟨u, r, q⟩ := hl i x v e1 e2 e3
    refine ⟨u, r, ?_⟩
    rcases q with q | ⟨k, c, e, oc, hoc, hd⟩
    · exact .inl q
    · exact .inr ⟨k, c, e, oc, w.keep c oc (A.cell x c e) hoc, hd⟩
  · obtain ⟨v, oc, hoc, hd⟩ := I.cell x c e
    exact ⟨v, oc, w.keep c oc (A.cell x c e) hoc, hd⟩
  · obtain ⟨h1, h2, h3, h4, h5⟩ := I.pin p hp
    exact ⟨w.keep _ _ (fun z => h4 (z ▸ hm)) h1, h2, h3, h4, h5⟩
  · refine (I.hok b u e).stay (fun c v hc y => w.keep c v (fun z => ?_) y) (fun _ q => q) fun _ _ q => q
    subst z
    rcases hc with rfl | hc
    · rw [HL] at e
      cases e
    · rw [HL] at hc
      cases hc

/-! ### the body's statements -/
/-- n: how many items it may still hand out; the last one -/
structure GE where
  nx : Nat → V → L2.St → Hp → Prop
  rt : Nat → V → VK
  bk : Nat → V → L2.St → Hp → Prop := fun _ _ _ _ => False
  ct : Nat → V → L2.St → Hp → Prop := fun _ _ _ _ => False
def GE.at (D : GE) (n : Nat) (l : V) : Ends := { nx := D.nx n l, rt := D.rt n l, bk := D.bk n l, ct := D.ct n l }
abbrev TG2 := GE → Nat → V → L2.St → Hp → Prop
def YB (X : Cx) (L : Addr) (Fo : V → Obj → Prop) : Protocol := fun _ s₀ v s kap => ∃ o x l ip σ H, s₀.heap.get? L = some o ∧ Fo l o ∧ RelV x v ∧ Inv (bX X L o) ip σ H s ∧ ∀ o' s', Wake L o' s s' → Fo x o' → kap (.send .none) s'
def RB (X : Cx) (L : Addr) (Fo : V → Obj → Prop) (Q : V → Hp → Prop) : GenEnd := fun _ s₀ r s => r = .ok (.ret .none) ∧ ∃ o l ip σ H, s₀.heap.get? L = some o ∧ Fo l o ∧ Inv (bX X L o) ip σ H s ∧ Q l H
structure GC2 (X : Cx) (A : Around) (c : Code) (fs : List Frame) (gd : Bool → Bool) : Prop where
  over : A.over c fs = X.A
  split : splitAtGen fs = none
  guard : fs.any Frame.guarded = false
  gd : gd false = false
def GK2 (X : Cx) (L : Addr) (Fo : V → Obj → Prop) (A : Around) (R : GenEnd) (ip : List (Addr × Obj)) (c : Code) (fs : List Frame) (K : Flow → Sem PySem.Fin) (D : GE) : Prop :=
  ∀ (n : Nat) (l : V) (o : Obj) (s₀ s : Shared) (f : Flow), s₀.heap.get? L = some o → Fo l o → SP (bX X L o) ip (D.at n l) f s → Seg (model X.prog X.w) A R (YB X L Fo) n s₀ c (K f) fs s
structure GS2 (X : Cx) (L : Addr) (st : Stmt) (t : TG2) : Prop where
  run : ∀ (Fo : V → Obj → Prop) (A : Around) (R : GenEnd) (ip : List (Addr × Obj)) (n : Nat) (l : V) (o : Obj) (s₀ : Shared) (c : Code) (fs : List Frame) (K : Flow → Sem PySem.Fin) (J : Value → Sem PySem.Fin) (gd : Bool → Bool) (lv : List Value → List Value) (s : Shared) (σ : L2.St) (H : Hp) (D : GE),
    GC2 X A c fs gd → GK2 X L Fo A R ip c fs K D → s₀.heap.get? L = some o → Fo l o → Inv (bX X L o) ip σ H s → t D n l σ H → Seg (model X.prog X.w) A R (YB X L Fo) n s₀ c ((exec st X.env).wrap K J gd lv) fs s
structure GSs2 (X : Cx) (L : Addr) (st : List Stmt) (t : TG2) : Prop where
  run : ∀ (Fo : V → Obj → Prop) (A : Around) (R : GenEnd) (ip : List (Addr × Obj)) (n : Nat) (l : V) (o : Obj) (s₀ : Shared) (c : Code) (fs : List Frame) (K : Flow → Sem PySem.Fin) (J : Value → Sem PySem.Fin) (gd : Bool → Bool) (lv : List Value → List Value) (s : Shared) (σ : L2.St) (H : Hp) (D : GE),
    GC2 X A c fs gd → GK2 X L Fo A R ip c fs K D → s₀.heap.get? L = some o → Fo l o → Inv (bX X L o) ip σ H s → t D n l σ H → Seg (model X.prog X.w) A R (YB X L Fo) n s₀ c ((execs st X.env).wrap K J gd lv) fs s
section
variable {X : Cx} {L : Addr} {st : Stmt} {rest : List Stmt}
def tP2 (t : TS) : TG2 := fun D n l σ H => t (D.at n l) σ H
theorem g2_ps {t : TS} (hx : X.xe = fun _ _ => False) (h : ∀ o, PS (bX X L o) st t) : GS2 X L st (tP2 t) := by
  refine ⟨fun Fo A R ip n l o s₀ c fs K J gd lv s σ H D g k h0 hF I ht => seg_wrap ?_⟩
  rw [g.over]
  refine wpAny_mono ((h o).run _ s σ H (D.at n l) I ht) (fun f s' hs => k n l o s₀ s' f h0 hF hs) fun x s' z => ?_
  rw [show (bX X L o).xe = fun _ _ => False from hx] at z
  exact z.elim
def tN2 : TG2 := fun D n l σ H => D.nx n l σ H
theorem g2_nil : GSs2 X L [] tN2 := ⟨fun Fo A R ip n l o s₀ c fs K J gd lv s σ H D g k h0 hF I ht => seg_execs_nil (k n l o s₀ s .next h0 hF ⟨σ, H, I, ht⟩)⟩
def tT2 (t u : TG2) : TG2 := fun D n l σ H => t { D with nx := fun n' l' σ' H' => u D n' l' σ' H' } n l σ H
theorem g2_cons {t u : TG2} (a : GS2 X L st t) (b : GSs2 X L rest u) : GSs2 X L (st :: rest) (tT2 t u) := by
  refine ⟨fun Fo A R ip n l o s₀ c fs K J gd lv s σ H D g k h0 hF I ht => seg_execs_cons ?_⟩
  refine a.run Fo A R ip n l o s₀ c fs _ J gd lv s σ H { D with nx := fun n' l' σ' H' => u D n' l' σ' H' } g (fun n' l' o' s₀' s' f h0' hF' hs => ?_) h0 hF I ht
  cases f with
  | next =>
    obtain ⟨σ', H', I', q⟩ := hs
    exact b.run Fo A R ip n' l' o' s₀' c fs K J gd lv s' σ' H' D g k h0' hF' I' q
  | brk => exact k n' l' o' s₀' s' .brk h0' hF' hs
  | cont => exact k n' l' o' s₀' s' .cont h0' hF' hs
  | ret u => exact k n' l' o' s₀' s' (.ret u) h0' hF' hs
/-- yield e -/
def tY2 (te : TE) : TG2 := fun D n l σ H => ∃ m, n = m + 1 ∧ te σ H fun x H1 => D.nx m x σ H1
theorem g2_yield {e : Expr} {te : TE} {yp pos : Pos} (FA : FrAt X L) (hx : X.xe = fun _ _ => False) (he : ∀ o, PE (bX X L o) e te) (hco : X.env.scope.isCoroutine = false := by rfl) (hi : interactive X.env = false := by rfl) : GS2 X L (.Expr (.Yield (some e) yp) pos) (tY2 te) := by
  refine ⟨fun Fo A R ip n l o s₀ c fs K J gd lv s σ H D g k h0 hF I ht => ?_⟩
  obtain ⟨m, rfl, ht⟩ := ht
  refine seg_Expr_Yield g.split g.gd g.guard ?_ hco hi
  rw [g.over]
  refine wpAny_mono ((he o).run _ s σ H _ I ht) (fun v s' hv => ?_) fun x s' z => ?_
  · obtain ⟨x, H1, I1, rv, q⟩ := hv
    exact fun kap hk => ⟨o, x, l, ip, σ, H1, h0, hF, rv, I1, fun o' s'' wk hF' => hk .none s'' (k m x o' s'' s'' .next wk.at_ hF' ⟨σ, H1, wokenB FA I1 wk, q⟩)⟩
  · rw [show (bX X L o).xe = fun _ _ => False from hx] at z
    exact z.elim
/-- for -/
def tF2 (wi : TI) (g : TG) (tb : TG2) : TG2 := fun D n l σ H => wi σ H fun J H1 => ∃ W : Nat → Nat → Nat → V → L2.St → Hp → Prop, (∃ m, W 0 m n l σ H1) ∧ ∀ i m n l σ H, W i m n l σ H →
  (J.stop i H ∧ D.nx n l σ H) ∨ (J.go i H ∧ ∃ N : Nat → V → L2.St → Hp → Prop, (∀ n' l' σ' H', N n' l' σ' H' → ∃ m', m' < m ∧ W (i + 1) m' n' l' σ' H') ∧ ∀ x H', J.yld i H x H' → g x σ H' fun σ2 H2 => tb { D with nx := N, ct := N, bk := D.nx } n l σ2 H2)
theorem gc2_loop {A : Around} {c c' : Code} {fs : List Frame} {gd : Bool → Bool} {k : Result → Sem PySem.Fin} {h : Option Value} {l kp : List Value} {p : Pos} {hd : Option Value} (g : GC2 X A c fs gd) (hw : c'.weight = 0) (hu : c'.cUnits = 0) :
    GC2 X A c' (.ret k none (gd false) l c p kp :: fs) id where
  over := (over_loop hw hu).trans g.over
  split := by
    show (splitAtGen fs).map _ = none
    rw [g.split]; rfl
  guard := by
    show (gd false || fs.any Frame.guarded) = false
    rw [g.gd, g.guard]; rfl
  gd := rfl
theorem g2_for {tg iter : Expr} {body : List Stmt} {wi : TI} {gt : TG} {tb : TG2} {pos : Pos} (hx : X.xe = fun _ _ => False) (hc : X.calm = true) (hi : ∀ o, PI (bX X L o) tg iter wi) (hg : ∀ o, PG (bX X L o) tg gt) (hb : GSs2 X L body tb)
    (hs : ∀ x, foldedSetIterable iter X.env x = pure x := by intro _; rfl) : GS2 X L (.For tg iter body [] pos) (tF2 wi gt tb) := by
  refine ⟨fun Fo A R ip n l o s₀ c fs K J gd lv s σ H D g k h0 hF I ht => ?_⟩
  have fls : ∀ {o : Obj} {α : Type} {t : Sem α} {Q' Q'' : α → Shared → Prop} {E : Value → Shared → Prop} {s : Shared}, wpAny (model X.prog X.w) X.A t Q' (bX X L o).xe s → (∀ a s, Q' a s → Q'' a s) → wpAny (model X.prog X.w) X.A t Q'' E s := fun {o α t Q' Q'' E s} h hQ => wpAny_mono h hQ fun _ _ z => by
    rw [show (bX X L o).xe = fun _ _ => False from hx] at z
    exact z.elim
  rw [exec_For]
  refine seg_bind_wrap (wpAny_standAt ?_)
  refine seg_bind_wrap ?_
  rw [g.over]
  refine fls (o := o) ((hi o).run _ s σ H _ I ht) fun v s1 h1 => ?_
  refine seg_bind_wrap (wpAny_of_eq (hs v) ?_)
  refine seg_bind_wrap (wpAny_standAt ?_)
  refine seg_bind_wrap (wpAny_holding ?_)
  rw [g.over]
  refine fls (o := o) h1 fun itv s2 h2 => ?_
  obtain ⟨it, fp, tn, J', H2, e, I2, T, st2, f2, W, ⟨m0, w0⟩, turn⟩ := h2
  subst e
  have stat : ∀ {o' : Obj} {H' : Hp}, (∀ b ∈ fp, H' b = none) → ∀ b ∈ fp, FpOk (bX X L o') ip H' b := fun {o' H'} hn b hb => by
    obtain ⟨_, z1, z2, z3, z4, z5⟩ := f2 b hb
    refine ⟨hn b hb, z1, z2, ?_, z4, z5⟩
    rcases z3 with z | z
    · exact .inl z
    · refine .inr ?_
      have z : (setL X.s_0 L o).heap.objs.size ≤ b := z
      show (setL X.s_0 L o').heap.objs.size ≤ b
      rw [setL_sz] at z ⊢
      exact z
  show Seg _ A R _ n s₀ c ((runOwn (.forLoop tg (.ref it) body [] X.env) X.env).wrap K J gd lv) fs s2
  refine seg_call fun p => ?_
  have gl := fun (kk : Result → Sem PySem.Fin) => gc2_loop (h := none) (hd := none) (k := kk) (c' := .forLoop tg (.ref it) body [] X.env) (l := lv []) (kp := []) (p := p) g rfl rfl
  have loop : ∀ (m i n : Nat) (l : V) (o : Obj) (s₀ s3 : Shared) (σ3 : L2.St) (H3 : Hp), W i m n l σ3 H3 → s₀.heap.get? L = some o → Fo l o → Inv (bX X L o) ip σ3 H3 s3 → tn i s3.heap → (∀ b ∈ fp, H3 b = none) →
      Seg (model X.prog X.w) A R (YB X L Fo) n s₀ (.forLoop tg (.ref it) body [] X.env) ((model X.prog X.w).den (.forLoop tg (.ref it) body [] X.env))
        (.ret (fun r => ((match r with | .ok f => (.pure f : Sem Flow) | .error e => .raise e).onRaise (cameBack X.env)).wrap K J gd lv) none (gd false) (lv []) c p [] :: fs) s3 := by
    intro m
    induction m using Nat.strongRecOn with
    | ind m ih =>
      intro i n l o s₀ s3 σ3 H3 w3 h0 hF I3 st3 fr3
      have gg := gl (fun r => ((match r with | .ok f => (.pure f : Sem Flow) | .error e => .raise e).onRaise (cameBack X.env)).wrap K J gd lv)
      show Seg _ A R _ n s₀ _ ((forTurn tg (.ref it) body [] X.env).onRaise (fun x => do noteFrame x X.env; theTreesLotGoes x)) _ s3
      unfold forTurn
      rw [Sem.onRaise_eq_wrap]
      refine seg_bind_wrap (wpAny_standAt ?_)
      rcases turn i m n l σ3 H3 w3 with ⟨stop, qn⟩ | ⟨go, N, hN, step⟩
      · refine seg_bind_wrap (wpAny_onRaise ?_)
        rw [gg.over]
        refine thnF (T.done (bX X L o) rfl rfl rfl hc i ip s3 σ3 H3 (fun _ _ => False) I3 (stat fr3) st3 stop) fun r s4 ⟨hr, I4⟩ => ?_
        subst hr
        refine seg_again rfl ?_
        show Seg _ A R _ n s₀ _ ((execs [] X.env).onRaise (fun x => do noteFrame x X.env; theTreesLotGoes x) >>= fun f => pure (PySem.Fin.done f)) _ s4
        refine seg_bind (wpAny_onRaise (wpAny_execs_nil ?_))
        exact seg_leaf (.ok .next) (k n l o s₀ s4 .next h0 hF ⟨σ3, H3, I4, qn⟩)
      · refine seg_bind_wrap (wpAny_onRaise ?_)
        rw [gg.over]
        refine thnF (T.item (bX X L o) rfl rfl rfl hc i ip s3 σ3 H3 (fun _ _ => False) I3 (stat fr3) st3 go) fun r s4 ⟨u, hr, h4⟩ => ?_
        subst hr
        refine seg_bind_wrap ?_
        rw [gg.over]
        refine thnF h4 fun _ s5 ⟨x, H5, I5, r5, y5, st5, fr5⟩ => ?_
        have I5' := I5.pinned (stat fr5) (T.obj _ _ st5)
        refine seg_bind_wrap ?_
        rw [gg.over]
        refine fls (o := o) ((hg o).run _ s5 σ3 H5 x u _ I5' r5 (step x H5 y5)) fun _ s6 ⟨σ6, H6, I6, q6⟩ => ?_
        rw [Sem.bind_eq_wrap', Sem.wrap_wrap]
        refine hb.run Fo A R (ip ++ pinsAt fp s5.heap) n l o s₀ _ _ _ _ _ _ s6 σ6 H6 { D with nx := N, ct := N, bk := D.nx } ⟨gg.over, gg.split, gg.guard, rfl⟩ (fun n' l' o' s₀' s7 f h0' hF' hs => ?_) h0 hF I6 q6
        have again : ∀ {σ7 : L2.St} {H7 : Hp}, Inv (bX X L o') (ip ++ pinsAt fp s5.heap) σ7 H7 s7 → N n' l' σ7 H7 → Seg (model X.prog X.w) A R (YB X L Fo) n' s₀' (.forLoop tg (.ref it) body [] X.env) (.pure (.again (.forLoop tg (.ref it) body [] X.env)))
            (.ret (fun r => ((match r with | .ok f => (.pure f : Sem Flow) | .error e => .raise e).onRaise (cameBack X.env)).wrap K J gd lv) none (gd false) (lv []) c p [] :: fs) s7 := fun {σ7 H7} I7 n7 => by
          obtain ⟨m', hm, w7⟩ := hN n' l' σ7 H7 n7
          refine seg_again rfl (ih m' hm (i + 1) n' l' o' s₀' s7 σ7 H7 w7 h0' hF' I7.unpinned (T.keep _ _ _ st5 fun b hb u e => (I7.pin (b, u) (List.mem_append_right _ (List.mem_append_right _ (mem_pinsAt hb e)))).1) fun b hb => ?_)
          obtain ⟨u, e, d⟩ := T.obj _ _ st5 b hb
          exact (I7.pin (b, u) (List.mem_append_right _ (List.mem_append_right _ (mem_pinsAt hb e)))).2.1
        cases f with
        | next => obtain ⟨σ7, H7, I7, n7⟩ := hs; exact again I7 n7
        | cont => obtain ⟨σ7, H7, I7, n7⟩ := hs; exact again I7 n7
        | brk =>
          obtain ⟨σ7, H7, I7, q7⟩ := hs
          exact seg_leaf (.ok .next) (k n' l' o' s₀' s7 .next h0' hF' ⟨σ7, H7, I7.unpinned, q7⟩)
        | ret v =>
          obtain ⟨x7, σ7, H7, I7, r7, q7⟩ := hs
          exact seg_leaf (.ok (.ret v)) (k n' l' o' s₀' s7 (.ret v) h0' hF' ⟨x7, σ7, H7, I7.unpinned, r7, q7⟩)
  exact loop m0 0 n l o s₀ s2 σ H2 w0 h0 hF I2 st2 fun b hb => (f2 b hb).1
end
end PR
end
section
set_option Elab.async false
set_option linter.all false
set_option maxRecDepth 100000
set_option maxHeartbeats 4000000
/-! A generator def's promise by its body; the caller's for. -/
namespace PR
open PySem PySem.Spec PyProof.Rows L2 Evl GenW
/-- the context of a generator def's body; pn: the generator's own object -/
abbrev g2X (P : Program) (w : World) (K : PySem.W.Frag) (mg : Str → Option Value) (base : Heap) (N : List Str) (qual : Str) (scope : Scope) (f : Addr) (cd : Value) (A : Around) (outer : List Env) (s : Shared) (H : Hp) (pn : List (Addr × Obj)) : Cx :=
  { cxOf CX0 P w K mg base N qual scope f cd A outer s H (fun _ _ _ => False) with pn := pn, xe := fun _ _ => False }
/-- the state by the caller: all as at sc but the frame at L, which is o -/
structure StC (P : Program) (w : World) (outer : List Env) (Hc : Hp) (sc : Shared) (L : Addr) (o : Obj) (H : Hp) (s : Shared) : Prop where
  os : s.os = sc.os
  bare : AllBare s.gens
  un : Un (frs outer) [] Hc H (setL sc L o).heap s.heap
  hok : HOk P w H s.heap
def FC (P : Program) (w : World) (outer : List Env) (Hc : Hp) (sc : Shared) (L : Addr) (Fo : V → Obj → Prop) (Q : V → Hp → Prop) (s₀ s : Shared) : Prop := ∃ o l H, s₀.heap.get? L = some o ∧ Fo l o ∧ StC P w outer Hc sc L o H s ∧ Q l H
def RC (P : Program) (w : World) (outer : List Env) (Hc : Hp) (sc : Shared) (L : Addr) (Fo : V → Obj → Prop) (Q : V → Hp → Prop) : GenEnd := fun _ s₀ r s =>
  ((r = .ok (.ret .none) ∨ r = .ok .next) ∧ FC P w outer Hc sc L Fo Q s₀ s) ∨ ∃ e, r = .error e ∧ False
def YC (P : Program) (w : World) (outer : List Env) (Hc : Hp) (sc : Shared) (L a : Addr) (g : Nat) (Fo : V → Obj → Prop) : Protocol := fun _ s₀ v s kap =>
  ∃ o x l H, s₀.heap.get? L = some o ∧ Fo l o ∧ RelV x v ∧ StC P w outer Hc sc L o H s ∧ s.heap.NoLimit ∧ s.heap.IsGen a g ∧ ∀ o' s', Wake L o' s s' → Fo x o' → kap (.send .none) s'
/-- args, heap, what is there before the first item, how many at most, the end -/
abbrev SpG2 := List V → Hp → V → Nat → (V → Hp → Prop) → Prop
def GMd2 (P : Program) (w : World) (k : Nat) (outer : List Env) (H : Hp) (sc : Shared) (l : V) (n : Nat) (Q : V → Hp → Prop) (u : Value) (s' : Shared) : Prop :=
  ∃ (a : Addr) (g : Nat) (c : Code), u = .ref a ∧ sc.heap.objs.size ≤ a ∧ s'.heap.IsGen a g ∧ s'.gens[g]? = some (.fresh c) ∧ s'.os = sc.os ∧ AllBare s'.gens ∧ (∀ b o, sc.heap.get? b = some o → s'.heap.get? b = some o) ∧
    ∀ (A : Around) (L : Addr) (Fo : V → Obj → Prop) (o : Obj) (s2 : Shared), Room k A → A.frames = some outer → L ∈ frs outer → sc.heap.get? L = some o → Fo l o → (∀ b u, s'.heap.get? b = some u → s2.heap.get? b = some u) → s2.os = sc.os → AllBare s2.gens →
      Seg (model P w) A (RC P w outer H sc L Fo Q) (YC P w outer H sc L a g Fo) n s2 c ((model P w).den c) [] s2
structure GFn2 (P : Program) (w : World) (K : PySem.W.Frag) (mg : Str → Option Value) (base : Heap) (k : Nat) (f : Addr) (fd : FuncData) (ps : List Str) (sp : SpG2) : Prop where
  len : ∀ vs H l n Q, sp vs H l n Q → vs.length = ps.length
  run : ∀ (A : Around) (outer : List Env) (s : Shared) (H : Hp) (args : Args) (us : List Value) (vs : List V) (l : V) (n : Nat) (Q : V → Hp → Prop), Room k A → Env0 P w K mg base A outer s H → BindsTo s fd args (ps.zip us) → Vals vs us → sp vs H l n Q →
    codeAny (model P w) A (.call (.ref f) args) (fun r s' => match r with | .ok (.ret u) => GMd2 P w k outer H s l n Q u s' | _ => False) s
/-- the base may be told anew by the same objects -/
theorem inv_bX {X : Cx} {L : Addr} {o : Obj} {ip : List (Addr × Obj)} {σ : L2.St} {H : Hp} {s : Shared} (e : X.s_0.heap.get? L = some o) (I : Inv X ip σ H s) : Inv (bX X L o) ip σ H s := by
  have same : ∀ b, (setL X.s_0 L o).heap.get? b = X.s_0.heap.get? b := fun b => by
    by_cases z : b = L
    · rw [z, e]
      exact setL_eq e (notFreed e)
    · exact setL_ne z
  have to : ∀ {b u}, (setL X.s_0 L o).heap.get? b = some u → X.s_0.heap.get? b = some u := fun {b u} q => by rw [← same b]; exact q
  refine ⟨⟨I.ok.mod, I.ok.kind, I.ok.glob, I.ok.blt, ?_, I.ok.inj, I.ok.has, fun x c h1 h2 => ?_, I.ok.hd, I.ok.frames, I.ok.stk, I.ok.exf, fun b u q => ⟨(same b).trans (I.ok.bs b u q).1, (I.ok.bs b u q).2⟩, ?_, I.ok.noex, I.ok.exfs, ?_, I.ok.frf⟩,
    I.os, I.bare, ⟨fun b u q => I.base.keep b u (to q), fun b u q => I.base.slot b u (to q), fun b u q => I.base.free b u (to q), fun b u q => I.base.there b u (to q), I.base.tups, I.base.frzs, I.base.tbls⟩, I.loc, I.cell, I.free, I.freeC, I.pin, I.hok, I.len⟩
  · show (setL X.s_0 L o).heap.objs.size ≤ _
    rw [setL_sz]
    exact I.ok.above
  · show (setL X.s_0 L o).heap.objs.size ≤ _
    rw [setL_sz]
    exact I.ok.cab x c h1 h2
  · show _ ≤ (setL X.s_0 L o).heap.objs.size
    rw [setL_sz]
    exact I.ok.bsz
  · refine Heap.FunFrames.of_keeps (fun b u q _ => ⟨u, (same b).trans q, rfl⟩) I.ok.funs
/-- THE RULE -/
theorem gfn2_of {P : Program} {w : World} {K : PySem.W.Frag} {mg : Str → Option Value} {base : Heap} {k : Nat} {f : Addr} {name qual : Str} {params : Arguments} {body : List Stmt} {scope : Scope} {dV kV doc pm cdv ct oc : Value} {an od : Option Addr}
    {osl : Array (Option Value)} {N ps : List Str} {sp : SpG2} (lk : K.lookup f = some ⟨oc, od, .func (PySem.W.fnOf name qual params body scope dV kV doc pm an cdv ct), osl⟩) (hcd : PySem.W.codeIn K cdv qual = true) (S : GScope N ps scope)
    (len : ∀ vs H l n Q, sp vs H l n Q → vs.length = ps.length)
    (hbody : ∀ (A : Around) (outer : List Env) (s : Shared) (H : Hp) (vs : List V) (l : V) (n : Nat) (Q : V → Hp → Prop) (pn : List (Addr × Obj)) (L : Addr), Room k (A.deeper (envOfC qual scope s.heap.objs.size f cdv)) → sp vs H l n Q → FrAt (g2X P w K mg base N qual scope f cdv A outer s H pn) L →
      ∃ t, GSs2 (g2X P w K mg base N qual scope f cdv A outer s H pn) L body t ∧ t { nx := fun _ l' _ H' => Q l' H', rt := fun _ l' v H' => v = .non ∧ Q l' H' } n l (start N vs) H) :
    GFn2 P w K mg base (k + 1) f (PySem.W.fnOf name qual params body scope dV kV doc pm an cdv ct) ps sp := by
  refine ⟨len, fun A outer s H args us vs l n Q hr e0 hb r hsp => ?_⟩
  have hl := len _ _ _ _ _ hsp
  have KX : K.In s.heap := e0.mod.kin.keeps fun b o e => (e0.bs b o e).1
  have lim : s.heap.NoLimit := e0.mod.nolimit.keeps fun b o e => (e0.bs b o e).1
  have hkind : ∀ y ∈ ps.zip us, scope.names.lookup y.1 = some .local ∨ (scope.names.lookup y.1 = some .cell ∧ ((cellsFrom (s.heap.objs.size + 1) scope.names []).lookup y.1).isSome = true) := fun ⟨x, v⟩ hy =>
    (S.par x (List.of_mem_zip hy).1).imp id fun q => ⟨q, PySem.W.cellsFrom_some _ _ _ (.inl q)⟩
  refine codeAny_call_generator hr.depth (KX _ _ lk) rfl S.co S.gen rfl (PySem.W.codeRec_of KX hcd) (hb _ _ _ _ ?_)
  refine wpAny_newFunctionEnv_cells S.kind hkind fun env he s1 x => ?_
  subst he
  have lim1 : s1.heap.NoLimit := lim.keeps x.toInCall.keep
  refine ⟨lim1, ?_⟩
  obtain ⟨h1, tk, es1, hk1⟩ := x.done
  have os1 : s1.os = s.os := by rw [es1]
  have gen1 : s1.gens = s.gens := by rw [es1]
  have kp1 : ∀ b o, s.heap.get? b = some o → s1.heap.get? b = some o := x.toInCall.keep
  have lt1 : s.heap.objs.size < s1.heap.objs.size := x.toInCall.ns.lt
  have main : ∀ (go : Obj) (nm qn : Value) (tk2 : Nat), go.cls = .type "generator" → go.data = .fields #[.int s1.gens.size 0, nm, qn] → go.slots = #[] → (∀ h : Heap, (h.push go).get? h.objs.size = some go) →
      GMd2 P w (k + 1) outer H s l n Q (.ref s1.heap.objs.size) { s1 with gens := s1.gens.push (.fresh (.func body (envOfC qual scope s.heap.objs.size f cdv))), toks := tk2, heap := s1.heap.push go } := by
    intro go nm qn tk2 hgc hgd0 hgs hgp
    have hgen : ∀ h : Heap, h.get? s1.heap.objs.size = some go → h.IsGen s1.heap.objs.size s1.gens.size := fun h e => ⟨go, nm, qn, e, hgc, hgd0, hgs⟩
    have hpushed : (s1.heap.push go).get? s1.heap.objs.size = some go := hgp _
    refine ⟨s1.heap.objs.size, s1.gens.size, _, rfl, Nat.le_of_lt lt1, hgen _ hpushed, Array.getElem?_push_size .., os1, AllBare.push (by rw [gen1]; exact e0.bare) rfl, fun b o e => Heap.get?_push_of_some _ (kp1 b o e), ?_⟩
    intro Aw L Fo o s2 hrw hfr hL ho hFo hk2 hos hba
    have e0w : Env0 P w K mg base Aw outer s H := ⟨hfr, e0.mod, e0.bs, e0.bsz, e0.funs, e0.frf, e0.hok, e0.bare⟩
    have I1 : Inv (gcxOf P w K mg base N qual scope f cdv Aw outer s H (fun _ _ _ => False) []) [] (start N vs) H s1 := inv_startG S hrw.hd e0w hl r x
    have kp2 : ∀ b u, s1.heap.get? b = some u → s2.heap.get? b = some u := fun b u e => hk2 b u (Heap.get?_push_of_some _ e)
    have I2 : Inv (gcxOf P w K mg base N qual scope f cdv Aw outer s H (fun _ _ _ => False) []) [] (start N vs) H s2 :=
      I1.call' (ch := []) (hos.trans os1.symm) (Un.kept kp2) (I1.hok.kept kp2) hba fun b z => by simp at z
    have hea : s2.heap.get? s1.heap.objs.size = some go := hk2 s1.heap.objs.size go hpushed
    have hgd : ∀ v, go.data ≠ .cell v := fun v q => by rw [hgd0] at q; cases q
    have pin : ∀ p ∈ [(s1.heap.objs.size, go)] ++ ([] : List (Addr × Obj)), s2.heap.get? p.1 = some p.2 ∧ H p.1 = none ∧ p.1 ≠ s.heap.objs.size ∧ p.1 ∉ frs outer ∧ ∀ v, p.2.data ≠ .cell v := fun p hp => by
      rw [List.append_nil] at hp
      rw [List.mem_singleton.mp hp]
      exact ⟨hea, I1.hok.fresh (Nat.le_refl _), Nat.ne_of_gt lt1, I1.nofs (Nat.le_refl _), hgd⟩
    have I3 : Inv (g2X P w K mg base N qual scope f cdv Aw outer s H [(s1.heap.objs.size, go)]) [] (start N vs) H s2 :=
      ⟨⟨I2.ok.mod, I2.ok.kind, I2.ok.glob, I2.ok.blt, I2.ok.above, I2.ok.inj, I2.ok.has, I2.ok.cab, I2.ok.hd, I2.ok.frames, I2.ok.stk, I2.ok.exf, I2.ok.bs, I2.ok.bsz, I2.ok.noex, I2.ok.exfs, I2.ok.funs, I2.ok.frf⟩, I2.os, I2.bare, I2.base, I2.loc, I2.cell, I2.free, I2.freeC, pin, I2.hok, I2.len⟩
    have hlt : L < s.heap.objs.size := Heap.lt_size ho
    have FA : FrAt (g2X P w K mg base N qual scope f cdv Aw outer s H [(s1.heap.objs.size, go)]) L :=
      ⟨hL, ⟨o, ho⟩, Nat.ne_of_lt hlt, fun y c e z => by
        have q : s.heap.objs.size ≤ c := I3.ok.cab y c rfl e
        rw [z] at q
        exact absurd (Nat.lt_of_lt_of_le hlt q) (Nat.lt_irrefl _), rfl⟩
    obtain ⟨t, ht, hq⟩ := hbody Aw outer s H vs l n Q [(s1.heap.objs.size, go)] L (hrw.deeper _) hsp FA
    have I4 := inv_bX (L := L) (o := o) ho I3
    have ptn : ∀ {ip : List (Addr × Obj)} {o' : Obj} {s' : Shared} {σ' : L2.St} {H' : Hp}, Inv (bX (g2X P w K mg base N qual scope f cdv Aw outer s H [(s1.heap.objs.size, go)]) L o') ip σ' H' s' → s'.heap.IsGen s1.heap.objs.size s1.gens.size := fun J =>
      hgen _ (J.pin (s1.heap.objs.size, go) (List.mem_append_left _ (List.mem_singleton.mpr rfl))).1
    refine seg_func ?_
    refine seg_imp (R := RB (g2X P w K mg base N qual scope f cdv Aw outer s H [(s1.heap.objs.size, go)]) L Fo Q) (Y := YB (g2X P w K mg base N qual scope f cdv Aw outer s H [(s1.heap.objs.size, go)]) L Fo) (fun n s₀ r s1' hR => ?_) (fun n s₀ v s1' kap kap' hkk hY => ?_) n ?_
    · obtain ⟨rfl, o', l', ip, σ', H', h0, hF, J, q⟩ := hR
      exact .inl ⟨.inl rfl, o', l', H', h0, hF, ⟨J.os, J.bare, J.base, J.hok⟩, q⟩
    · obtain ⟨o', x', l', ip, σ', H', h0, hF, rv, J, h3⟩ := hY
      exact ⟨o', x', l', H', h0, hF, rv, ⟨J.os, J.bare, J.base, J.hok⟩, J.nolimit, ptn J, fun o2 s3 wk hF2 => hkk _ _ (h3 o2 s3 wk hF2)⟩
    · refine ht.run Fo Aw _ [] n l o s2 _ [] _ _ id id s2 (start N vs) H _ ⟨over_func, rfl, rfl, rfl⟩ (fun n' l' o' s₀' s' fl h0 hF hs => ?_) (kp2 L o (kp1 L o ho)) hFo I4 hq
      cases fl with
      | next =>
        obtain ⟨σ', H', J, q⟩ := hs
        exact seg_end (.ok (.ret .none)) ⟨rfl, o', l', [], σ', H', h0, hF, J, q⟩
      | brk => obtain ⟨_, _, _, q⟩ := hs; exact False.elim q
      | cont => obtain ⟨_, _, _, q⟩ := hs; exact False.elim q
      | ret u =>
        obtain ⟨v, σ', H', J, rv, ev, q⟩ := hs
        subst ev
        cases rv
        exact seg_end (.ok (.ret .none)) ⟨rfl, o', l', [], σ', H', h0, hF, J, q⟩
  exact main _ _ _ _ rfl rfl rfl fun h => Heap.get?_push_size _ rfl

/-! ### the caller -/
section
variable {X : Cx} {pins : List (Addr × Obj)} {σ σ' : L2.St} {H H' : Hp} {s : Shared}
/-- the own frame is written -/
theorem reframe {h' : Heap} {t' : Nat} {m' : Str → Option Value} (I : Inv X pins σ H s) (hs : Heap.SameBut X.env.locals s.heap h') (hn : h'.Ns X.env.locals m')
    (hl : ∀ (i : Nat) (x : Str) (v : V), X.N[i]? = some x → σ'[i]? = some (some v) → X.env.kindOf x = some .local ∧ ∃ u, RelV v u ∧ m' x = some u) (hlen : σ'.length = σ.length) : Inv X pins σ' H { s with heap := h', toks := t' } := by
  have old : ∀ b o, X.s_0.heap.get? b = some o → b ≠ X.env.locals := fun b o e => Nat.ne_of_lt (Nat.lt_of_lt_of_le (Heap.lt_size e) I.ok.above)
  refine ⟨I.ok, I.os, I.bare, ⟨fun b o e n hb hx => ?_, fun b o e n hb hx => ?_, I.base.free, fun b o e hx => ?_, I.base.tups, I.base.frzs, I.base.tbls⟩, ⟨m', hn, fun i x v e1 e2 _ => ?_⟩, fun x c e => ?_, I.free, I.freeC, fun p hp => ?_, fun b o e => ?_, hlen.trans I.len⟩
  · exact (hs.2 b (old b o e)).trans (I.base.keep b o e n hb hx)
  · obtain ⟨sl, e1⟩ := I.base.slot b o e n hb hx
    exact ⟨sl, (hs.2 b (old b o e)).trans e1⟩
  · obtain ⟨o', e1⟩ := I.base.there b o e hx
    exact ⟨o', (hs.2 b (old b o e)).trans e1⟩
  · obtain ⟨k, u, r, e⟩ := hl i x v e1 e2
    exact ⟨u, r, .inl ⟨k, e⟩⟩
  · obtain ⟨v, z⟩ := I.cell x c e
    exact ⟨v, z.sameBut hs (I.cne x c e)⟩
  · obtain ⟨e, n, ne, nf, d⟩ := I.pin p hp
    exact ⟨(hs.2 p.1 ne).trans e, n, ne, nf, d⟩
  · refine (I.hok b o e).stay (fun c u hc q => (hs.2 c fun z => ?_).trans q) (fun _ q => q) fun _ _ q => q
    rw [z] at hc
    rcases hc with hc | hc
    · rw [← hc, I.free] at e
      cases e
    · rw [I.free] at hc
      cases hc
/-- for r in f(..): found = r -/
def tForG (sp : SpG2) (ir jf : Nat) (t : TA) : TS := fun D σ H => t σ H fun vs H1 => ∃ l n, σ[jf]? = some (some l) ∧ sp vs H1 l n (fun l' H2 => ∀ y, D.nx ((σ.set ir y).set jf (some l')) H2)
theorem ps_forG {sp : SpG2} {fd : FuncData} {f : Addr} {ps : List Str} {k ir jf : Nat} {nm rn fn : Str} {p1 p2 pr pr2 pf pa pos : Pos} {e : Expr} {es : List Expr} {t : TA}
    (F : GFn2 X.prog X.w X.K X.mg X.base k f fd ps sp) (hr : Room (k + 3) X.A) (hg : Gl X nm) (hm : X.mg nm = some (.ref f)) (hk : PySem.W.keepIn X.K (.ref f) = true) (hb : Binds X.K fd ps []) (ha : PA X (e :: es) t)
    (hN : X.N.Nodup) (hir : X.N[ir]? = some rn) (hjf : X.N[jf]? = some fn) (hne : ir ≠ jf) (hloc : ∀ x ∈ X.N, X.env.kindOf x = some .local) (hfr : X.env.frame = some X.env.locals) (hstk : X.stack = X.env :: X.outer) (hc : X.calm = true) (hp : PassesOwn (model X.prog X.w) X.A X.env X.xe)
    (hdr : (rn == ("__debug__" : Str)) = false := by decide) (hdb : (nm == ("__debug__" : Str)) = false := by decide) (he : starEach (e :: es) X.env = (false, eval e X.env) :: starEach es X.env := by rfl) (hpl : (backTo p2 (starEach es X.env)).any (·.1) = false := by rfl)
    (hs : ∀ x, foldedSetIterable (.Call (.Name nm p1) (e :: es) [] p2) X.env x = pure x := by intro _; rfl) (hsw : swapsWith (.Name rn pr2) (some (.Name fn pf)) pa.line X.env = pure false := by rfl) :
    PS X (.For (.Name rn pr) (.Call (.Name nm p1) (e :: es) [] p2) [.Assign [.Name fn pf] (.Name rn pr2) pa] [] pos) (tForG sp ir jf t) := by
  refine ⟨fun pins s σ H D I h => ?_⟩
  refine wpAny_For ?_ hs
  refine wpAny_Call_Name_kw (ld_glob I hg hm ?_ hdb)
  refine PySem.W.callWith_K (h₀ := X.base) I.ok.mod.kin hk (thn (ha.run p2 pins s σ H _ I h) fun us sc ⟨vs, Hc, Ic, r, q⟩ => ⟨Ic.kIn, ?_⟩) he hpl
  obtain ⟨l, n, hσ, hsp⟩ := q
  have r2 : Vals (vs ++ []) (us ++ []) := r.append .nil
  have hl2 : (us ++ []).length = ps.length := by rw [List.append_nil, ← r.length]; exact F.len _ _ _ _ _ hsp
  have bt : BindsTo sc fd ⟨us, []⟩ (ps.zip us) := by
    have := hb sc us Ic.kIn hl2
    rw [List.append_nil] at this
    exact this
  refine wpAny_call (codeAny_mono (F.run X.A X.stack sc Hc ⟨us, []⟩ us vs l n _ (hr.mono (by omega)) Ic.env0 bt r hsp) fun r s' hq => ?_)
  cases r with
  | error e => exact False.elim hq
  | ok fl =>
  cases fl with
  | next => exact False.elim hq
  | brk => exact False.elim hq
  | cont => exact False.elim hq
  | ret u =>
  obtain ⟨a, g, c, rfl, hage, hgen, hgs, hos, hba, kp, wake⟩ := hq
  show wpAny _ _ (pyIter (.ref a)) _ _ s'
  refine wpAny_pyIter_gen hgen ?_
  have hLs : X.env.locals ∈ frs X.stack := by
    rw [hstk]
    unfold frs
    rw [List.filterMap_cons, hfr]
    exact List.mem_cons_self
  obtain ⟨mc, hnc, hlc⟩ := id Ic.loc
  obtain ⟨oc, esc, epc, hoc, hdc, _⟩ := id hnc
  have hoc : sc.heap.get? X.env.locals = some oc := hoc
  have laL : X.env.locals < a := Nat.lt_of_lt_of_le (Heap.lt_size hoc) hage
  have lirσ : ir < σ.length := by rw [Ic.len]; exact (List.getElem?_eq_some_iff.mp hir).1
  have ljfσ : jf < σ.length := by rw [Ic.len]; exact (List.getElem?_eq_some_iff.mp hjf).1
  -- what the frame is to be
  let Fo : V → Obj → Prop := fun l' o => ∃ y, Inv X pins ((σ.set ir y).set jf (some l')) Hc (setL sc X.env.locals o)
  have hFo : Fo l oc := by
    refine ⟨none, ?_⟩
    have I0 : Inv X pins σ Hc (setL sc X.env.locals oc) := Ic.kept (h' := (setL sc X.env.locals oc).heap) (t' := sc.toks) fun b u e => by
      by_cases z : b = X.env.locals
      · rw [z] at e ⊢
        rw [hoc] at e
        cases e
        exact setL_eq hoc (notFreed hoc)
      · rw [setL_ne z]
        exact e
    refine I0.weak (by rw [List.length_set, List.length_set]) fun i v e => ?_
    by_cases z : i = jf
    · subst z
      rw [List.getElem?_set_self (by rw [List.length_set]; exact ljfσ)] at e
      cases e
      exact hσ
    · rw [List.getElem?_set_ne (Ne.symm z)] at e
      by_cases z2 : i = ir
      · subst z2
        rw [List.getElem?_set_self lirσ] at e
        cases e
      · rw [List.getElem?_set_ne (Ne.symm z2)] at e
        exact e
  have h0 : ∀ {o : Obj} {s : Shared}, s.heap.get? X.env.locals = some o → (s.setGen g .running).heap.get? X.env.locals = some o := fun e => e
  have hgl : g < s'.gens.size := (Array.getElem?_eq_some_iff.mp hgs).1
  refine codeAny_forLoop_any (fun n s2 => s2.heap.IsGen a g ∧ s2.heap.NoLimit ∧ g < s2.gens.size ∧ ∃ gs, s2.gens[g]? = some gs ∧ gs.Goes (model X.prog X.w) X.A.in1 (RC X.prog X.w X.stack Hc sc X.env.locals Fo (fun l' H2 => ∀ y, D.nx ((σ.set ir y).set jf (some l')) H2)) (YC X.prog X.w X.stack Hc sc X.env.locals a g Fo) n (.send .none) (s2.setGen g .running)) ?_ n ⟨hgen, Ic.nolimit.keeps kp, hgl, _, hgs, rfl, ?_⟩
  · intro n s2 hI
    obtain ⟨hg2, hl2, hgz, gs, hgs2, hgo⟩ := hI
    refine wpAny_gsz (n := g + 1) hgz ?_
    refine next_genG (E := _) (Er := fun _ _ => False) (F := fun _ s₀ s₁ => FC X.prog X.w X.stack Hc sc X.env.locals Fo (fun l' H2 => ∀ y, D.nx ((σ.set ir y).set jf (some l')) H2) s₀ s₁) hr.hd hl2 hr.depth hg2 hgs2 hgo (fun v s₁ gs' hbare hv => ?_) (fun s₁ hp' h' hkeep => ?_) (fun e s₁ he => he.elim)
    · intro hsz
      obtain ⟨o, x, l1, H1, ho, ⟨y1, Iv⟩, rv, st, lim1, hg1, hkap⟩ := hv
      refine wpAny_of_eq (rfl : letOwnedTupleGo (.Name rn pr) (.ref a) v = pure ()) ?_
      have I1 : Inv X pins ((σ.set ir y1).set jf (some l1)) H1 s₁ := Iv.call' (ch := []) st.os st.un st.hok st.bare fun b z => by simp at z
      obtain ⟨m, hn, hl⟩ := id I1.loc
      have hcls : (X.env.scope.kind == .class || (X.env.scope.kind == .module && X.env.locals != X.env.globals)) = false := by rw [Ic.ok.kind]; rfl
      have lr := hloc rn (List.mem_of_getElem? hir)
      have lf := hloc fn (List.mem_of_getElem? hjf)
      refine wpAny_assign_Name (wpAny_storeName_local (s := s₁.setGen g gs') lr hn (fun h2 hn2 hs2 => ?_) hcls)
      refine wpAny_execs_cons (wpAny_Assign_Name (wpAny_Name (wpAny_loadName_local (v := v) Ic.ok.kind lr hn2 (by simp) ?_) hdr) hsw)
      refine wpAny_storeName_local lf hn2 (fun h3 hn3 hs3 => wpAny_execs_nil ?_) hcls
      have s13 : Heap.SameBut X.env.locals s₁.heap h3 := ⟨hs3.1.trans hs2.1, fun b z => (hs3.2 b z).trans (hs2.2 b z)⟩
      obtain ⟨o3, es3, ep3, ho3, hd3, _⟩ := id hn3
      have ho3 : h3.get? X.env.locals = some o3 := ho3
      have fcts : ∀ (i : Nat) (z : Str) (w' : V), X.N[i]? = some z → ((σ.set ir (some x)).set jf (some x))[i]? = some (some w') → X.env.kindOf z = some .local ∧ ∃ u, RelV w' u ∧ (fun z => if z = fn then some v else (fun z => if z = rn then some v else m z) z) z = some u := fun i z w' e1 e2 => by
        refine ⟨hloc z (List.mem_of_getElem? e1), ?_⟩
        by_cases z1 : i = jf
        · subst z1
          rw [List.getElem?_set_self (by rw [List.length_set]; exact ljfσ)] at e2
          cases e2
          rw [hjf] at e1
          cases e1
          exact ⟨v, rv, by simp⟩
        · rw [List.getElem?_set_ne (Ne.symm z1)] at e2
          have nfz : z ≠ fn := fun q => z1 (nodup_ix hN e1 (q ▸ hjf))
          by_cases z2 : i = ir
          · subst z2
            rw [List.getElem?_set_self lirσ] at e2
            cases e2
            rw [hir] at e1
            cases e1
            exact ⟨v, rv, by simp [nfz]⟩
          · rw [List.getElem?_set_ne (Ne.symm z2)] at e2
            have nrz : z ≠ rn := fun q => z2 (nodup_ix hN e1 (q ▸ hir))
            obtain ⟨u, ru, q⟩ := hl i z w' e1 (by rw [List.getElem?_set_ne (Ne.symm z1), List.getElem?_set_ne (Ne.symm z2)]; exact e2) (.inl (hloc z (List.mem_of_getElem? e1)))
            rcases q with ⟨_, q⟩ | ⟨q, _⟩
            · exact ⟨u, ru, by simp [nfz, nrz, q]⟩
            · rw [hloc z (List.mem_of_getElem? e1)] at q
              rcases q with q | q <;> cases q
      have nf3 : o3.isFreed = false := notFreed ho3
      have Iv3 : Inv X pins ((σ.set ir (some x)).set jf (some x)) Hc (setL sc X.env.locals o3) := by
        have oL : (setL sc X.env.locals o).heap.get? X.env.locals = some o ∨ True := .inr trivial
        refine reframe (s := setL sc X.env.locals o) (t' := sc.toks) (h' := (setL sc X.env.locals o3).heap) Iv ⟨by rw [setL_sz, setL_sz], fun b z => by rw [setL_ne z, setL_ne z]⟩ (hn3.at' fun u e => ?_) fcts (by simp)
        rw [ho3] at e
        cases e
        exact setL_eq hoc nf3
      have wk : Wake X.env.locals o3 s₁ ({ (s₁.setGen g gs') with heap := h3, toks := (s₁.setGen g gs').toks + 1 + 1 } : Shared) := ⟨rfl, allBare_setGen st.bare hbare, fun b u z e => (s13.2 b z).trans e, ho3, fun vs q => by rw [hd3] at q; cases q⟩
      have wk2 : Wake X.env.locals o3 s₁ (({ (s₁.setGen g gs') with heap := h3, toks := (s₁.setGen g gs').toks + 1 + 1 } : Shared).setGen g .running) := ⟨rfl, allBare_setGen wk.bare rfl, wk.keep, wk.at_, wk.nf⟩
      have zz := hkap o3 _ wk2 ⟨some x, Iv3⟩
      cases n with
      | zero => exact zz.elim
      | succ n =>
        have gz : g < s₁.gens.size := by
          have q : (s₁.setGen g gs').gens.size = s₁.gens.size := setGen_size _ _ _
          have hsz' : g + 1 ≤ (s₁.setGen g gs').gens.size := hsz
          omega
        refine ⟨n, Nat.lt_succ_self _, hg1.sameBut s13 (Nat.ne_of_gt laL), ?_, hsz, gs', setGen_at gz, zz⟩
        obtain ⟨mcs, hns, hnn⟩ := lim1
        have nL : cStatics ≠ X.env.locals := fun q => by
          have := Iv.ok.mod.nolimit
          obtain ⟨mcs2, hns2, _⟩ := this
          obtain ⟨ob, _, _, hob, _⟩ := hns2
          have hob : X.base.get? cStatics = some ob := hob
          rw [q] at hob
          have h1 := (Ic.ok.bs _ _ hob).1
          exact absurd (Nat.lt_of_lt_of_le (Heap.lt_size h1) Ic.ok.above) (Nat.lt_irrefl _)
        exact ⟨mcs, hns.at' fun u e => (s13.2 _ nL).trans e, hnn⟩
    · intro hsz
      obtain ⟨o, l1, H1, ho, ⟨y1, Iv⟩, st, hQ⟩ := hp'
      refine wpAny_execs_nil ?_
      have I1 : Inv X pins ((σ.set ir y1).set jf (some l1)) H1 s₁ := Iv.call' (ch := []) st.os st.un st.hok st.bare fun b z => by simp at z
      have I2 : Inv X pins ((σ.set ir y1).set jf (some l1)) H1 ({ s₁.setGen g .finished with heap := h' } : Shared) := I1.call' (ch := []) rfl (Un.kept hkeep) (I1.hok.kept hkeep) (allBare_setGen st.bare rfl) fun b z => by simp at z
      exact ⟨_, H1, I2, hQ y1⟩
  · exact wake X.A.in1 X.env.locals Fo oc (s'.setGen g .running) ⟨hr.hd, by have := hr.dp; show X.A.depth + 3 * k + 5 < _; omega, by have := hr.un; show X.A.units + 1 + 16 * k + 200 < _; omega⟩ Ic.ok.frames hLs hoc hFo (fun b u e => e) hos (allBare_setGen hba rfl)
end
end PR
end
section
set_option Elab.async false
set_option linter.all false
set_option maxRecDepth 100000
set_option maxHeartbeats 3200000
/-! PrG4: set(list of texts), and == of two such sets. -/
namespace Prg.G4
open PySem PySem.Spec PyProof.Rows L2

theorem entry_seq : entryFor table "set.__eq__" = some Builtin.«frozenset.__eq__» :=
  entryFor_alias (id' := "frozenset.__eq__") (by kernel_rfl) rfl (by decide +kernel) (by kernel_rfl)

theorem sub_set_froz : isSubtype (.type "set") (.type "frozenset") = pure false := by
  rw [isSubtype_type]
  kernel_rfl
section
variable {prog : Program} {w : World} {A : Around} {E : Value → Shared → Prop} {s : Shared}
theorem isAny {v : Value} {Q : Bool → Shared → Prop} (h : s.TypeIs v "set") (hq : Q true s) : wpAny (model prog w) A (Builtin.Frozenset.isAnySet v) Q E s := by
  unfold Builtin.Frozenset.isAnySet
  refine wpAny_bind (wpAny_isInstance h sub_set_self ?_)
  exact wpAny_pure hq

variable {K : Type} [DecidableEq K] {knd : KeyKind prog w K}
theorem flat_quiet {x : Value} {Q : Bool → Shared → Prop} (hx : x.scannable = true) (hq : Q true s) : wpAny (model prog w) A (Builtin.Frozenset.quietEq x) Q E s := by
  cases x <;> first | exact wpAny_pure hq | (exact absurd hx (by simp [Value.scannable]))

theorem unseen {a b : Addr} {S S' : K → Bool} {n m : Nat} {oa : Obj} {es : Array (Int × Value)} {ep : Nat} {t : SetTable} (ho : s.heap.get? a = some oa) (hd : oa.data = .set es ep t) (hf : t.fits es.size = true)
    (he : ElemsOf knd es.toList) (hb : s.heap.SetOf knd b S' m) {Q : List (Int × Value) → Shared → Prop} (hq : Q es.toList s) : wpAny (model prog w) A (Builtin.Frozenset.walkUnseen a b) Q E s := by
  obtain ⟨ob, eb, epb, tb, hob, _, hdb, heb, _, _, hfb, _⟩ := hb
  unfold Builtin.Frozenset.walkUnseen
  refine wpAny_bind (wpAny_setEntries_of ho hd hf ?_)
  refine wpAny_bind (wpAny_setEntries_of hob hdb hfb ?_)
  have all : ∀ e ∈ es.toList ++ eb.toList, e.2.scannable = true := fun e h => (List.mem_append.mp h).elim (fun h => (he e h).2) fun h => (heb e h).2
  generalize es.toList ++ eb.toList = L at all
  refine wpAny_bind (wpAny_mono (wpAny_forIn_list _ (fun l b s' => (∀ e ∈ l, e.2.scannable = true) ∧ b = (none, ()) ∧ s' = s) (fun b s' => b = (none, ()) ∧ s' = s) ?turn ?fin L _ ⟨all, rfl, rfl⟩) ?post fun _ _ h => h)
  case turn =>
    rintro x rest b s' ⟨h1, rfl, rfl⟩
    obtain ⟨h0, x⟩ := x
    refine wpAny_bind (flat_quiet (h1 _ (List.mem_cons_self)) ?_)
    exact wpAny_pure ⟨fun e he => h1 e (List.mem_cons_of_mem _ he), rfl, rfl⟩
  case fin =>
    rintro b s' ⟨_, rfl, rfl⟩
    exact ⟨rfl, rfl⟩
  case post =>
    rintro b s' ⟨rfl, rfl⟩
    exact wpAny_pure hq

theorem within {a b : Addr} {S S' : K → Bool} {n m : Nat} (ha : s.heap.SetOf knd a S n) (hb : s.heap.SetOf knd b S' m) (hnm : n = m) {r : Bool} (hr : r = true ↔ ∀ k, S k = true → S' k = true)
    {id : String} {Q : Bool → Shared → Prop} (hq : Q r s) : wpAny (model prog w) A (Builtin.Frozenset.subsetOf id a b) Q E s := by
  obtain ⟨oa, es, ep, t, ho, hex, hd, hel, hmem, hsb, hf, hn⟩ := ha
  have hb0 := hb
  obtain ⟨ob, eb, epb, tb, hob, _, hdb, heb, hmb, _, hfb, hmm⟩ := hb0
  unfold Builtin.Frozenset.subsetOf Builtin.Frozenset.sizeOf
  refine wpAny_bind (wpAny_bind (wpAny_setEntries_of ho hd hf (wpAny_pure ?_)))
  refine wpAny_bind (wpAny_bind (wpAny_setEntries_of hob hdb hfb (wpAny_pure ?_)))
  rw [if_neg (by omega)]
  refine wpAny_bind (wpAny_setEpoch_of ho hd hf ?_)
  refine wpAny_bind (unseen (S := S) (n := n) ho hd hf hel hb ?_)
  have start : ∀ e ∈ es.toList, (∃ k, knd.is k e.2 = true ∧ e.1 = knd.hash k) ∧ e.2.scannable = true := hel
  have hr2 : r = true ↔ ∀ e ∈ es.toList, ∀ k, knd.is k e.2 = true → S' k = true := by
    rw [hr]
    exact ⟨fun h e he k hk => h k ((hmem k).mpr ⟨e, he, hk⟩), fun h k hk => let ⟨e, he, q⟩ := (hmem k).mp hk; h e he k q⟩
  generalize es.toList = L at start hr2
  refine wpAny_bind (wpAny_mono (wpAny_forIn_list _
    (fun l b s' => (∀ e ∈ l, (∃ k, knd.is k e.2 = true ∧ e.1 = knd.hash k) ∧ e.2.scannable = true) ∧ (r = true ↔ ∀ e ∈ l, ∀ k, knd.is k e.2 = true → S' k = true) ∧ b = (none, ()) ∧ s' = s)
    (fun b s' => b = (if r then (none, ()) else (some false, ())) ∧ s' = s) ?turn ?fin L _ ⟨start, hr2, rfl, rfl⟩) ?post fun _ _ h => h)
  case post =>
    rintro b' s' ⟨rfl, rfl⟩
    cases r <;> exact wpAny_pure hq
  case turn =>
    rintro ⟨h0, x⟩ rest b' s' ⟨h1, h2, rfl, rfl⟩
    obtain ⟨⟨k, hk, hh⟩, hs⟩ := h1 (h0, x) List.mem_cons_self
    dsimp only at hk hh hs ⊢
    rw [hh]
    refine wpAny_bind (wpAny_holding (wpAny_setFind_of hk hs hb fun q hq2 => ?_))
    cases hS : S' k with
    | false =>
      rw [hS] at hq2
      have : q.isNone = true := by cases q <;> simp_all
      rw [if_pos this]
      have : r = false := by
        cases r with
        | false => rfl
        | true => exact absurd (h2.mp rfl _ List.mem_cons_self k hk) (by rw [hS]; decide)
      subst this
      exact wpAny_pure ⟨rfl, rfl⟩
    | true =>
      rw [hS] at hq2
      have : ¬ q.isNone = true := by cases q <;> simp_all
      rw [if_neg this]
      unfold Builtin.Frozenset.unchanged
      refine wpAny_bind (wpAny_bind (wpAny_setEpoch_of ho hd hf ?_))
      rw [if_neg (by simp)]
      refine wpAny_pure (wpAny_pure ⟨fun e he => h1 e (List.mem_cons_of_mem _ he), ?_, rfl, rfl⟩)
      rw [h2]
      refine ⟨fun h e he => h e (List.mem_cons_of_mem _ he), fun h e he => ?_⟩
      rcases List.mem_cons.mp he with rfl | he
      · intro k2 hk2
        rw [knd.inj _ _ _ hk2 hk]; exact hS
      · exact h e he
  case fin =>
    rintro b' s' ⟨_, h2, rfl, rfl⟩
    have : r = true := h2.mpr (fun e he => absurd he (List.not_mem_nil))
    subst this
    exact ⟨rfl, rfl⟩

theorem eq_sets {a b : Addr} {S S' : K → Bool} {n m : Nat} (ha : s.heap.SetOf knd a S n) (hb : s.heap.SetOf knd b S' m) {r : Bool} (hr : r = true ↔ (n = m ∧ ∀ k, S k = true → S' k = true)) (hu : A.units < cLine)
    {Q : Value → Shared → Prop} (hq : Q (.bool r) s) : wpAny (model prog w) A (compareOp .Eq (.ref a) (.ref b)) Q E s := by
  refine wpAny_richCompare_same_room (op := .Eq) ha.typeIs hb.typeIs PySem.F.slot_set_eq (wpAny_call_entry PySem.F.slot_set_eq ha.typeIs entry_seq ?_ (PySem.F.args_set_eq_2 _ _)) hu
  have ta := ha.typeIs
  have tb := hb.typeIs
  obtain ⟨oa, es, ep, t, ho, hex, hd, hel, hmem, hsb, hf, hn⟩ := id ha
  obtain ⟨ob, eb, epb, tb', hob, _, hdb, heb, hmb, _, hfb, hmm⟩ := id hb
  show wpAny _ _ (Builtin.Frozenset.slot1 "__eq__" ⟨[.ref a, .ref b], []⟩ >>= _) _ _ s
  refine wpAny_bind (wpAny_pure ?_)
  show wpAny _ _ (Builtin.Frozenset.isAnySet (.ref b) >>= _) _ _ s
  refine wpAny_bind (isAny tb ?_)
  simp only [Bool.not_true, Bool.false_eq_true, if_false]
  unfold Builtin.Frozenset.addrOf Builtin.Frozenset.sizeOf
  refine wpAny_bind (wpAny_pure (wpAny_bind (wpAny_pure ?_)))
  refine wpAny_bind (wpAny_bind (wpAny_setEntries_of ho hd hf (wpAny_pure ?_)))
  refine wpAny_bind (wpAny_bind (wpAny_setEntries_of hob hdb hfb (wpAny_pure ?_)))
  have last : ∀ v, v = r → wpAny (model prog w) A.in1 (ret (Value.bool v)) (fun fin s' => ∃ v, fin = Fin.done (Flow.ret v) ∧ v ≠ Value.notImplemented ∧ Q v s') E s := by
    rintro v rfl
    exact wpAny_pure ⟨_, rfl, (fun x => nomatch x), hq⟩
  refine wpAny_bind ?_
  by_cases hnm : n = m
  · rw [if_neg (by simp; omega)]
    refine wpAny_bind (wpAny_bind (wpAny_isInstance ta sub_set_froz ?_))
    refine wpAny_pure ?_
    rw [if_neg (by decide)]
    have hr1 : r = true ↔ ∀ k, S k = true → S' k = true := hr.trans ⟨fun h => h.2, fun h => ⟨hnm, h⟩⟩
    exact within ha hb hnm hr1 (last r rfl)
  · rw [if_pos (by simp; omega)]
    refine wpAny_pure (last _ ?_)
    cases r with
    | false => rfl
    | true => exact absurd (hr.mp rfl).1 hnm

/-- the loop of set(xs): keys ks, all different -/
theorem fill {R : Result → Shared → Prop} {I : Addr} {fp wr : List Addr} {G : Array GenState → Array GenState → Prop} {n : Nat} {P : Nat → Value → Prop} {St : Nat → Shared → Prop}
    (W : WalksS prog w A.in1 I fp wr G n P St) (p : Addr) (hp : p ∉ fp) (ks : List K) (hn : ks.length = n) (nd : ks.Nodup) (hz : n + 1 < scanBound)
    (hv : ∀ i v, P i v → ∃ k, ks[i]? = some k ∧ knd.is k v = true ∧ v.scannable = true) (left : Nat) :
    ∀ (i : Nat) (s : Shared), n - i = left → i ≤ n → St i s → s.heap.SetOf knd p (fun k => decide (k ∈ ks.take i)) i →
      (∀ s', Moved (p :: wr) G s s' → s'.heap.SetOf knd p (fun k => decide (k ∈ ks.take n)) n → R (.ok (.ret .none)) s') →
      codeAny (model prog w) A (.builtin "set.update.loop" ⟨[.ref p, .ref I], []⟩) R s := by
  have away : p ∉ wr := fun h => hp (W.sub _ h)
  have more : ∀ b ∈ wr, b ∈ p :: wr := fun b hb => List.mem_cons_of_mem _ hb
  have stays : ∀ {s s' : Shared} {S : K → Bool} {m : Nat}, Moved wr G s s' → s.heap.SetOf knd p S m → s'.heap.SetOf knd p S m := by
    rintro s s' S m hm ⟨o, es, ep, t, ho, rest⟩
    exact ⟨o, es, ep, t, hm.heap p _ away ho, rest⟩
  induction left with
  | zero =>
    intro i s hk hi hst hS hR
    obtain rfl : i = n := by omega
    refine codeAny_builtin PyProof.Rows.F.entry_set_update_loop ?_
    rw [Around.under_plainId PyProof.Rows.F.plain_set_update_loop _]
    refine wpAny_bind (m := pyNext (.ref I)) (W.done s _ _ hst fun s' hm => ?_)
    exact wpAny_pure (hR s' (hm.mono more) (stays hm hS))
  | succ left ih =>
    intro i s hk hi hst hS hR
    have lt : i < n := by omega
    refine codeAny_builtin PyProof.Rows.F.entry_set_update_loop ?_
    rw [Around.under_plainId PyProof.Rows.F.plain_set_update_loop _]
    refine wpAny_bind (m := pyNext (.ref I)) (W.item i s _ _ lt hst fun v s' hP hst' hm => ?_)
    obtain ⟨k, ek, kv, sc⟩ := hv i v hP
    have hS' := stays hm hS
    refine wpAny_bind (m := holding [v] (setAdd p v)) (wpAny_holding ?_)
    unfold setAdd
    refine wpAny_holding (wpAny_bind (knd.pyHash (k := k) kv ?_))
    refine wpAny_setAddHashed_of (knd := knd) (s := { s' with toks := s'.toks + 1 }) kv sc hS' (by omega) fun h' hsb hS2 => ?_
    have new : k ∉ ks.take i := fun hm => by
      obtain ⟨j, hj, e⟩ := List.getElem_of_mem hm
      have hj2 : j < i := by
        have := List.length_take_le i ks
        omega
      rw [List.getElem_take] at e
      have h2 := (List.getElem?_eq_some_iff.mp ek)
      obtain ⟨hi2, e2⟩ := h2
      exact List.pairwise_iff_getElem.mp nd j i (by omega) hi2 hj2 (e.trans e2.symm)
    have hS3 : h'.SetOf knd p (fun k => decide (k ∈ ks.take (i + 1))) (i + 1) := by
      refine SetOf_congr hS2 (fun k2 => ?_) (by simp [new])
      rw [List.take_succ, ek]
      simp only [Option.toList_some, List.mem_append, List.mem_singleton]
      by_cases h1 : k2 ∈ ks.take i <;> by_cases h2 : k2 = k <;> simp [h1, h2]
    refine wpAny_pure ⟨plainId_quiet PyProof.Rows.F.plain_set_update_loop _, ih (i + 1) _ (by omega) lt (W.frame _ s' _ _ hst' (Nat.le_succ _) fun b hb o e => ?_) hS3 fun s2 hm2 hS4 => ?_⟩
    · exact (hsb.2 b (fun h : b = p => hp (h ▸ hb))).trans e
    · refine hR s2 (Moved.trans W.gtrans ((hm.mono more).then_heap (Nat.le_succ _) fun b o hb e => ?_) hm2) hS4
      exact (hsb.2 b (fun h : b = p => hb (h ▸ List.mem_cons_self))).trans e

/-- set(xs), xs a list of different keys -/
theorem call_set {l : Addr} {items : Array Value} (ks : List K) (S : K → Bool) (eS : ∀ k, S k = true ↔ k ∈ ks) {Q : Value → Shared → Prop} (hh : A.handled = none) (hl : s.heap.IsList l items) (hn : ks.length = items.size) (nd : ks.Nodup) (hz : items.size + 1 < scanBound)
    (hv : ∀ (i : Nat) (v : Value), items[i]? = some v → ∃ k, ks[i]? = some k ∧ knd.is k v = true ∧ v.scannable = true)
    (h : ∀ (h' : Heap) (tk : Nat), h'.SetOf knd s.heap.objs.size S ks.length → (∀ b o, b < s.heap.objs.size → s.heap.get? b = some o → h'.get? b = some o) →
      Q (.ref s.heap.objs.size) { s with heap := h', toks := tk }) : wpAny (model prog w) A (call (.type "set") [.ref l]) Q E s := by
  have made := PySem.F.called_set.made
  have called := PySem.F.called_set.sub
  obtain ⟨cc, tl, mro⟩ := PySem.F.called_set.mro
  have g1 := PySem.F.called_set.notType
  have g2 := PySem.F.called_set.canCreate
  have g3 := PySem.F.typeCall_set_1 (.ref l)
  let new : Bool → Obj := fun led => { cls := .type "set", dict := none, data := .set #[] 0 (.fresh 0 0 led) }
  refine wpAny_call (codeAny_of_tree ?_)
  show wpAny _ _ (callAny (.type "set") _) _ _ _
  refine wpAny_pure ⟨Code.quiet_builtin _ (by decide +kernel), codeAny_builtin PySem.F.entry_type_call ?_⟩
  rw [Around.under_plain (weight_type_call_type "set" [.ref l] []) rfl]
  repeat (any_goals (first | assumption | wp_step))
  refine codeAny_mono (code_set_new_1 (.ref l) (E := E) (Q₁ := fun z s1 => ∃ led : Bool, z = .ref s.heap.objs.size ∧ s1 = { s with heap := s.heap.push (new led) }) fun led => ⟨led, rfl, rfl⟩) fun r s1 hr => ?_
  rcases r with e | fl
  · exact hr
  cases fl with
  | ret z =>
    obtain ⟨led, rfl, rfl⟩ := hr
    have at0 : (s.heap.push (new led)).get? s.heap.objs.size = some (new led) := Heap.get?_push_size _ rfl
    have ty0 : Shared.TypeIs { s with heap := s.heap.push (new led) } (.ref s.heap.objs.size) "set" := ⟨_, at0, rfl⟩
    have look0 := PySem.F.called_set.init.lookup
    have bind0 := PySem.F.called_set.init.bind (.ref s.heap.objs.size)
    repeat (any_goals (first | assumption | wp_step))
    refine codeAny_mono (codeAny_call_builtin (R := wants (fun z s2 => z = .none ∧ ∃ h' tk, s2 = { s with heap := h', toks := tk } ∧ h'.SetOf knd s.heap.objs.size S ks.length ∧
        (∀ b o, b < s.heap.objs.size → s.heap.get? b = some o → h'.get? b = some o)) E) PySem.F.called_set.init.plain PySem.F.entry_set_init (check_set_init_1 ty0 ?_)) fun r2 s2 hr2 => ?_
    · obtain ⟨ol, gl, cl, nl, dl⟩ := hl
      obtain ⟨lc, ld, lx, ls⟩ := ol
      dsimp only at cl dl
      subst cl dl
      have gl1 : (s.heap.push (new led)).get? l = some { cls := .type "list", dict := ld, data := .seq items nl, slots := ls } := Heap.get?_push_of_some _ gl
      have isl : (s.heap.push (new led)).IsList l items := ⟨_, gl1, rfl, nl, rfl⟩
      have no1 := PySem.F.sub_list_set
      have no2 := PySem.F.sub_list_frozenset
      have no3 : (Value.type "list" == Value.type "dict") = false := by decide
      unfold Builtin.«set.__init__» noKeywords Builtin.Frozenset.updateFrom
      generalize nextIs : pyIter = PI
      wp_walk
      subst nextIs
      refine wpAny_pyIter_list isl (wpAny_bind (wpAny_runValue ?_))
      have ltl : l < s.heap.objs.size := Heap.lt_size gl
      have hh3 : A.in1.in1.in1.handled = none := by simp [hh]
      have ne1 : l ≠ (s.heap.push (new led)).objs.size := by
        rw [Heap.size_push]
        exact Nat.ne_of_lt (Nat.lt_succ_of_lt ltl)
      have ne2 : s.heap.objs.size ∉ [(s.heap.push (new led)).objs.size, l] := by
        rw [Heap.size_push]
        simp only [List.mem_cons, List.not_mem_nil, or_false, not_or]
        exact ⟨Nat.ne_of_lt (Nat.lt_succ_self _), Nat.ne_of_gt ltl⟩
      refine fill ((Walks.list hh3 _ l ne1 items).toS) s.heap.objs.size ne2 ks hn nd hz hv (items.size - 0) 0 _ (by omega) (Nat.zero_le _) ⟨⟨_, Heap.get?_push_size _ rfl, rfl, rfl⟩, (isl.push _)⟩ ?h0 ?hR
      case h0 =>
        exact SetOf_congr ((setObjOf_fresh (knd := knd) led).setOf (Heap.get?_push_of_some _ at0) (by decide)) (fun _ => by simp) rfl
      case hR =>
        rintro ⟨h', g', d', tk', os'⟩ hm hS
        obtain rfl : g' = s.gens := hm.gens
        obtain rfl : d' = s.drawn := hm.drawn
        obtain rfl : os' = s.os := hm.os
        rw [← hn, List.take_length] at hS
        obtain rfl : (fun k => decide (k ∈ ks)) = S := funext fun k => by rw [Bool.eq_iff_iff, eS k, decide_eq_true_iff]
        show wpAny _ _ (pure ()) _ _ _
        refine wpAny_pure ?_
        show wpAny _ _ (ret Value.none) _ _ _
        refine wpAny_pure (⟨rfl, h', tk', rfl, hS, fun b o hb e => ?_⟩)
        refine hm.heap b o ?_ (Heap.get?_push_of_some _ (Heap.get?_push_of_some _ e))
        simp only [List.mem_cons, List.not_mem_nil, or_false, not_or, Heap.size_push]
        exact ⟨Nat.ne_of_lt hb, Nat.ne_of_lt (Nat.lt_succ_of_lt hb)⟩
    · rcases r2 with e | fl2
      · exact hr2
      cases fl2 with
      | ret z =>
        obtain ⟨rfl, h', tk, rfl, hS, kept⟩ := hr2
        repeat (any_goals (first | assumption | wp_step))
        exact h _ _ hS kept
      | _ => exact hr2.elim
  | _ => exact hr.elim
end
end Prg.G4
end
section
set_option Elab.async false
set_option linter.all false
set_option maxRecDepth 100000
set_option maxHeartbeats 1600000
/-! PrG5: set(xs) == set(ys) for new lists of different texts, as a rule. -/
namespace PR
open PySem PySem.Spec PyProof.Rows L2 Evl
section
variable {X : Cx} {K : PySem.W.Frag}
def memK (ks : List Str) : Key → Bool
  | .inl _ => false
  | .inr x => decide (x ∈ ks)
def rSetT (P : Program) (w : World) : List V → Hp → VK → Prop := fun xs H Q => ∃ (l : Addr) (ks : List Str), xs = [V.ref l] ∧ H l = some (.lst (ks.map V.str)) ∧ ks.Nodup ∧ ks.length < 1000 ∧
  ∀ p, H p = none → Q (.ref p) (upd H p (SetK P w p (memK ks) ks.length))
theorem cr_setT0 (hc : X.calm = true) : CallR X (.type "set") (rSetT X.prog X.w) := by
  intro pins s σ H xs us Q I r h
  obtain ⟨l, ks, rfl, hl, nd, hz, q⟩ := h
  rw [Vals.ref1 r]
  obtain ⟨its, rv, pl, _⟩ := I.list (SqL.of hl)
  have sz : its.length = ks.length := by simpa using rv.length.symm
  have nd2 : (ks.map (Sum.inr : Str → Key)).Nodup := List.Pairwise.map _ (fun a b hab h => hab (Sum.inr.inj h)) nd
  refine Prg.G4.call_set (knd := mixKind X.prog X.w) (ks.map (Sum.inr : Str → Key)) (memK ks) (fun k => ?_) (I.ok.hd hc) pl.isList (by simp [sz]) nd2 (by rw [List.size_toArray, sz]; unfold scanBound; omega) (fun i v hv => ?_) fun h' tk R kept => ?_
  · cases k with
    | inl i => exact ⟨fun h => (nomatch h), fun h => by simp at h⟩
    | inr x => exact ⟨fun h => List.mem_map.mpr ⟨x, of_decide_eq_true h, rfl⟩, fun h => decide_eq_true (by simpa using h)⟩
  · rw [List.getElem?_toArray] at hv
    have hi : i < ks.length := by
      rw [← sz]
      exact (List.getElem?_eq_some_iff.mp hv).1
    have hx : (ks.map V.str)[i]? = some (V.str ks[i]) := by simp [List.getElem?_eq_getElem hi]
    obtain ⟨u, hu, ru⟩ := rv.get hx
    obtain rfl : u = v := Option.some.inj (hu.symm.trans hv)
    exact ⟨Sum.inr ks[i], by simp [List.getElem?_eq_getElem hi], kV_is (k := Sum.inr ks[i]) ru, key_scan (k := Sum.inr ks[i]) ru⟩
  · rw [List.length_map] at R
    exact ⟨.ref s.heap.objs.size, upd H s.heap.objs.size (SetK X.prog X.w s.heap.objs.size _ ks.length), I.laid (t' := tk) (fun b u hb => kept b u (Heap.lt_size hb) hb) (Nat.le_refl _) (setK_new R), rfl, q _ (I.hok.fresh (Nat.le_refl _))⟩
def rSetEq (P : Program) (w : World) : R2 := fun x y H Q => ∃ (a b : Addr) (S S' : Key → Bool) (n m : Nat) (r : Bool), x = V.ref a ∧ y = V.ref b ∧ H a = some (SetK P w a S n) ∧ H b = some (SetK P w b S' m) ∧
  (r = true ↔ (n = m ∧ ∀ k, S k = true → S' k = true)) ∧ Q (.bl r) H
theorem or_setEq0 (hu : X.A.units + 64 < cLine) : OpR X (compareOp .Eq) (rSetEq X.prog X.w) := by
  intro pins s σ H x y v u Q I rx ry h
  obtain ⟨a, b, S, S', n, m, r, rfl, rfl, ha, hb, hr, q⟩ := h
  cases rx
  cases ry
  exact Prg.G4.eq_sets (knd := mixKind X.prog X.w) (setK_get I ha) (setK_get I hb) hr (by omega) ⟨.bl r, H, I, rfl, q⟩
theorem cr_setT (P : Program) (w : World) (hc : X.calm = true) (hp : X.prog = P := by rfl) (hw : X.w = w := by rfl) : CallR X (.type "set") (rSetT P w) := hp ▸ hw ▸ cr_setT0 hc
theorem or_setEq (P : Program) (w : World) (hu : X.A.units + 64 < cLine) (hp : X.prog = P := by rfl) (hw : X.w = w := by rfl) : OpR X (compareOp .Eq) (rSetEq P w) := hp ▸ hw ▸ or_setEq0 hu
variable {te ta tb : TE} {σ : L2.St} {H : Hp}
theorem ev_setEq {P : Program} {w : World} {xs ys : List Str} {b : Bool} (h1 : EdL K ta σ H (xs.map PyData.str)) (h2 : EdL K tb σ H (ys.map PyData.str)) (n1 : xs.Nodup) (n2 : ys.Nodup) (z1 : xs.length < 1000) (z2 : ys.length < 1000)
    (hr : b = true ↔ (xs.length = ys.length ∧ ∀ x ∈ xs, x ∈ ys)) : Ev (tOp (rSetEq P w) (tCB (rSetT P w) (tCons ta tNil)) (tCB (rSetT P w) (tCons tb tNil))) σ H (.bl b) := by
  intro H1 e Q q
  refine h1 H1 e _ fun p vs H2 hp e2 hp2 r2 => ?_
  obtain rfl := r2.strs
  refine ⟨p, xs, rfl, hp2, n1, z1, fun p1 f1 => ?_⟩
  have e3 : Ex H2 (upd H2 p1 (SetK P w p1 (memK xs) xs.length)) := Ex.new f1
  refine h2 _ (e.trans (e2.trans e3)) _ fun p' vs' H4 hp' e4 hp4 r4 => ?_
  obtain rfl := r4.strs
  refine ⟨p', ys, rfl, hp4, n2, z2, fun p5 f5 => ?_⟩
  have a4 : H4 p1 = some (SetK P w p1 (memK xs) xs.length) := e4 _ _ (upd_same)
  have ne : p1 ≠ p5 := fun h => by
    rw [h, f5] at a4
    exact nomatch a4
  refine ⟨p1, p5, _, _, _, _, b, rfl, rfl, (by rw [upd_ne ne]; exact a4), upd_same, ?_, q _ (e2.trans (e3.trans (e4.trans (Ex.new f5))))⟩
  rw [hr]
  refine ⟨fun h => ⟨h.1, fun k hk => ?_⟩, fun h => ⟨h.1, fun x hx => ?_⟩⟩
  · cases k with
    | inl i => exact nomatch hk
    | inr x => exact decide_eq_true (h.2 x (of_decide_eq_true hk))
  · exact of_decide_eq_true (h.2 (.inr x) (decide_eq_true hx))
end
end PR
end
section
set_option Elab.async false
set_option linter.all false
set_option maxRecDepth 100000
set_option maxHeartbeats 4000000
/-! Dicts whose keys are pairs of a text (up, down) and an int. -/
namespace PR
open PySem PySem.Spec PyProof.Rows L2 Evl
abbrev End := Bool × Int
def ud (b : Bool) : Str := if b then "up" else "down"
theorem ud_inj {a b : Bool} (h : ud a = ud b) : a = b := by
  have k : ("up" : Str) ≠ ("down" : Str) := by decide +kernel
  cases a <;> cases b
  · rfl
  · exact absurd h.symm k
  · exact absurd h k
  · rfl
def kB (p : End) : List Key := [.inr (ud p.1), .inl p.2]
theorem kB_inj {p q : End} (h : kB p = kB q) : p = q := by
  unfold kB at h
  injection h with h1 h2
  injection h2 with h3 _
  exact Prod.ext (ud_inj (Sum.inr.inj h1)) (Sum.inl.inj h3)
abbrev dB (p : End) : PyData := .tuple [.str (ud p.1), .int p.2]
theorem rp_dB {K : PySem.W.Frag} {H : Hp} {v : V} {p : End} (h : Rp K H v (dB p)) : ∃ a, v = .ref a ∧ SqT K H a ((kB p).map kV) := by
  obtain ⟨a, xs, rfl, hs, rs⟩ := rp_tup h
  cases rs with
  | cons r1 t =>
    cases t with
    | cons r2 t2 =>
      cases t2
      cases r1
      cases r2
      exact ⟨a, rfl, hs⟩
/-- entries and what they tell -/
def DYR (K : PySem.W.Frag) (H : Hp) : List (End × V) → List XE → Prop := Paired fun p q => q.1 = kB p.1 ∧ Rp K H (.ref q.2.1) (dB p.1) ∧ RelV p.2 q.2.2
section
variable {K : PySem.W.Frag} {H H' : Hp} {kvs : List (End × V)} {xs : List XE}
theorem DYR.up (h : DYR K H kvs xs) (e : TEx H H') : DYR K H' kvs xs := Paired.mapP h fun p q z => ⟨z.1, z.2.1.up e, z.2.2⟩
theorem DYR.keys (h : DYR K H kvs xs) : xs.map (·.1) = (kvs.map (·.1)).map kB := by
  induction h with
  | nil => rfl
  | cons a t ih => rw [List.map_cons, List.map_cons, List.map_cons, ih, a.1]
theorem DYR.len (h : DYR K H kvs xs) : kvs.length = xs.length := Paired.length h
theorem DYR.val (h : DYR K H kvs xs) (k : End) : RelO (valV kvs k) ((atKey xs (kB k)).map (·.2)) := by
  induction h with
  | nil => exact True.intro
  | @cons p q ps qs a t ih =>
    by_cases e : p.1 = k
    · have e2 : q.1 = kB k := by rw [a.1, e]
      have e3 : atKey (q :: qs) (kB k) = some q.2 := by simp [atKey, List.find?_cons, e2]
      rw [valV_pos e, e3]
      exact a.2.2
    · have e2 : ¬ q.1 = kB k := fun z => e (kB_inj (a.1.symm.trans z))
      have e3 : atKey (q :: qs) (kB k) = atKey qs (kB k) := by simp [atKey, List.find?_cons, e2]
      rw [valV_neg e, e3]
      exact ih
theorem DYR.put (h : DYR K H kvs xs) {k : End} {v : V} {r : Value} (rv : RelV v r) : DYR K H (kvs.map fun kv => if kv.1 = k then (kv.1, v) else kv) (xs.map (putAt (kB k) r)) := by
  induction h with
  | nil => exact .nil
  | @cons p q ps qs a t ih =>
    refine .cons ?_ ih
    by_cases e : p.1 = k
    · have e2 : q.1 = kB k := by rw [a.1, e]
      dsimp only
      rw [if_pos e, putAt, if_pos e2]
      exact ⟨a.1, a.2.1, rv⟩
    · have e2 : ¬ q.1 = kB k := fun z => e (kB_inj (a.1.symm.trans z))
      dsimp only
      rw [if_neg e, putAt, if_neg e2]
      exact a
end
theorem nodup_kB {l : List End} (h : l.Nodup) : (l.map kB).Nodup := List.Pairwise.map _ (fun a b hab z => hab (kB_inj z)) h
theorem putK_keys {α : Type} [DecidableEq α] (kvs : List (α × V)) (k : α) (v : V) : (putK kvs k v).map (·.1) = if (valV kvs k).isSome then kvs.map (·.1) else kvs.map (·.1) ++ [k] := by
  unfold putK
  rw [valV_any]
  split
  · rw [List.map_map]
    refine List.map_congr_left fun p _ => ?_
    show (if p.1 = k then (p.1, v) else p).1 = p.1
    split <;> rfl
  · rw [List.map_append] <;> rfl
theorem putK_nodup {α : Type} [DecidableEq α] {kvs : List (α × V)} (h : (kvs.map (·.1)).Nodup) (k : α) (v : V) : ((putK kvs k v).map (·.1)).Nodup := by
  rw [putK_keys]
  split
  · exact h
  · rename_i hn
    rw [List.nodup_append]
    refine ⟨h, List.nodup_cons.mpr ⟨List.not_mem_nil, List.nodup_nil⟩, fun a ha c hc z => ?_⟩
    obtain rfl : c = k := by simpa using hc
    subst z
    obtain ⟨p, hp, e⟩ := List.mem_map.mp ha
    refine hn ?_
    rw [← valV_any]
    exact List.any_eq_true.mpr ⟨p, hp, decide_eq_true e⟩
/-- at d a dict of these keys and values -/
structure DY (K : PySem.W.Frag) (P : Program) (w : World) (H : Hp) (d : Addr) (kvs : List (End × V)) : Prop where
  ex : ∃ xs, H d = some (DXo P w d xs) ∧ DYR K H kvs xs
  nm : (d == sysModules) = false
  nd : (kvs.map (·.1)).Nodup
  len : kvs.length ≤ 100000
theorem DY.ext {K : PySem.W.Frag} {P : Program} {w : World} {H H' : Hp} {d : Addr} {kvs : List (End × V)} (h : DY K P w H d kvs) (e : Ex H H') : DY K P w H' d kvs := by
  obtain ⟨⟨xs, h1, h2⟩, h3, h4, h5⟩ := h
  exact ⟨⟨xs, e _ _ h1, h2.up (exT e)⟩, h3, h4, h5⟩
section
variable {X : Cx} {pins : List (Addr × Obj)} {σ : L2.St} {H : Hp} {s : Shared} {d b : Addr} {kvs : List (End × V)} {p : End} {A : Around} {E : Value → Shared → Prop}
theorem key_y (I : Inv X pins σ H s) (h : Rp X.K H (.ref b) (dB p)) : (tupleKind (mixKind X.prog X.w)).is s.heap (kB p) b := by
  obtain ⟨a, e, hs⟩ := rp_dB h
  cases e
  obtain ⟨its, r, ⟨o, h1, h2, n, h3⟩, _⟩ := I.tuple hs
  exact ⟨o, its.toArray, n, h1, h2, h3, by simpa using items_are r⟩
theorem dy_of (I : Inv X pins σ H s) (h : DY X.K X.prog X.w H d kvs) : ∃ xs, H d = some (DXo X.prog X.w d xs) ∧ DYR X.K H kvs xs ∧ s.heap.DictOfH (tupleKind (mixKind X.prog X.w)) d xs := by
  obtain ⟨⟨xs, h1, h2⟩, h3, h4, h5⟩ := h
  obtain ⟨⟨o, es, ep, e1, e2, e3, e4⟩, _⟩ := (show ObjOk X.prog X.w H s.heap d (DXo X.prog X.w d xs) from I.hok d _ h1)
  refine ⟨xs, h1, h2, o, es, ep, e1, e2, e3, e4, fun x hx => ?_, by rw [h2.keys]; exact nodup_kB h4⟩
  have all : ∀ {l : List (End × V)} {m : List XE}, DYR X.K H l m → ∀ x ∈ m, (tupleKind (mixKind X.prog X.w)).is s.heap x.1 x.2.1 := by
    intro l m q
    induction q with
    | nil => intro x hx; exact nomatch hx
    | cons a t ih =>
      intro x hx
      rcases List.mem_cons.mp hx with e | hx
      · subst e
        rw [a.1]
        exact key_y I a.2.1
      · exact ih x hx
  exact all h2 x hx
theorem dy_get {v : V} {Q : Value → Shared → Prop} (hu : A.units + 1 < cLine) (I : Inv X pins σ H s) (h : DY X.K X.prog X.w H d kvs) (hb : Rp X.K H (.ref b) (dB p)) (hv : valV kvs p = some v) (q : ∀ w' s', Inv X pins σ H s' → RelV v w' → Q w' s') :
    wpAny (model X.prog X.w) A (getItem (.ref d) (.ref b)) Q E s := by
  obtain ⟨xs, h1, h2, dd⟩ := dy_of I h
  obtain ⟨w', hw, rw'⟩ := RelO.some_of (v := v) (o := (atKey xs (kB p)).map (·.2)) (by rw [← hv]; exact h2.val p)
  obtain ⟨p', hp, hp2⟩ := Option.map_eq_some_iff.mp hw
  refine wpAny_getItem_heap (tupleKind_room_in1 hu) (key_y I hb) dd hp ?_
  rw [hp2]
  exact q w' _ (I.tok _) rw'
/-- d[k] = v -/
theorem dy_put {v : V} {r : Value} {Q : Unit → Shared → Prop} (hu : A.units + 1 < cLine) (I : Inv X pins σ H s) (h : DY X.K X.prog X.w H d kvs) (hb : Rp X.K H (.ref b) (dB p)) (hl : kvs.length < 100000) (rv : RelV v r)
    (q : ∀ H' s', (∀ a, a ≠ d → H' a = H a) → TEx H H' → Inv X pins σ H' s' → DY X.K X.prog X.w H' d (putK kvs p v) → Q () s') : wpAny (model X.prog X.w) A (setItem (.ref d) (.ref b) r) Q E s := by
  obtain ⟨xs, h1, h2, dd⟩ := dy_of I h
  have hz : xs.length ≤ sizeLine := by rw [← h2.len]; exact sz_of h.len
  refine wpAny_setItem_heap (hsz := hz) (tupleKind_room_in1 hu) (key_y I hb) dd fun h' dd' hs => ?_
  have tx : TEx H (upd H d (DXo X.prog X.w d (storedH xs (kB p) b r))) := TEx.dx h1
  have iss : (valV kvs p).isSome = (atKey xs (kB p)).isSome := by
    have z := (h2.val p).isSome_eq
    rw [Option.isSome_map] at z
    exact z
  have hr : DYR X.K H (putK kvs p v) (storedH xs (kB p) b r) := by
    unfold putK storedH
    rw [valV_any, iss]
    split
    · exact h2.put rv
    · exact paired_snoc ⟨rfl, hb, rv⟩ h2
  have hlen : (putK kvs p v).length ≤ 100000 := by
    have := length_putK kvs p v
    omega
  obtain ⟨o, es, ep, e1, e2, e3, e4, _, e6⟩ := dd'
  refine q _ _ (fun a ha => upd_ne ha) tx (d_write I (by rw [h1]; exact True.intro) hs ⟨o, e1⟩ ?_) ⟨⟨_, upd_same, hr.up tx⟩, h.nm, putK_nodup h.nd p v, hlen⟩
  exact ⟨⟨o, es, ep, e1, e2, e3, e4⟩, ⟨o, e1⟩, fun g1 g2 ⟨o, es, ep, z1, z2⟩ st => ⟨o, es, ep, st _ z1, z2⟩⟩
end
/-! ### the rules -/
section
variable {X : Cx} {o i e value : Expr} {pos pos' tpos : Pos} {td ty tv : TE}
/-- d[k] -/
def tDyGet (K : PySem.W.Frag) (P : Program) (w : World) (td ty : TE) : TE := fun σ H Q => td σ H fun x H1 => ty σ H1 fun y H2 => ∃ d kvs p v, x = .ref d ∧ DY K P w H2 d kvs ∧ Rp K H2 y (dB p) ∧ valV kvs p = some v ∧ Q v H2
theorem pe_dyget (K : PySem.W.Frag) (P : Program) (w : World) (hu : X.A.units + 1 < cLine) (ho : PE X o td) (hi : PE X i ty) (hs : NoSl i) (hk : X.K = K := by rfl) (hp : X.prog = P := by rfl) (hw : X.w = w := by rfl) : PE X (.Subscript o i pos) (tDyGet K P w td ty) := by
  subst hk hp hw
  refine ⟨fun pins s σ H Q I h => ?_⟩
  refine subD_of PySem.F.slot_dict_getitem.lookup hs (thn (ho.run pins s σ H _ I h) fun u s1 ⟨x, H1, I1, rx, q1⟩ => thn (hi.run pins s1 σ H1 _ I1 q1) fun iv s2 ⟨y, H2, I2, ry, d, kvs, p, v, ex, hd, hb, hv, q2⟩ => ?_)
  subst ex
  obtain ⟨b, rfl, _⟩ := rp_dB hb
  obtain rfl : u = Value.ref d := rx
  obtain rfl : iv = Value.ref b := ry
  obtain ⟨xs, h1, h2, dd⟩ := dy_of I2 hd
  exact ⟨dd.typeIs, dy_get hu I2 hd hb hv fun w' s3 I3 rw' => ⟨v, H2, I3, rw', q2⟩⟩
/-- d[k] = v -/
def sDyPut (K : PySem.W.Frag) (P : Program) (w : World) (td ty tv : TE) : TS := fun D σ H => tv σ H fun v H1 => td σ H1 fun x H2 => ty σ H2 fun y H3 => ∃ d kvs p, x = .ref d ∧ DY K P w H3 d kvs ∧ Rp K H3 y (dB p) ∧ kvs.length < 100000 ∧
  ∀ H', (∀ a, a ≠ d → H' a = H3 a) → TEx H3 H' → DY K P w H' d (putK kvs p v) → D.nx σ H'
theorem ps_dyput (K : PySem.W.Frag) (P : Program) (w : World) (hu : X.A.units + 1 < cLine) (ho : PE X o td) (hi : PE X i ty) (hv : PE X value tv) (hs : swapsWith value (some (.Subscript o i pos')) pos.line X.env = pure false)
    (hk : X.K = K := by rfl) (hp : X.prog = P := by rfl) (hw : X.w = w := by rfl) : PS X (.Assign [.Subscript o i pos'] value pos) (sDyPut K P w td ty tv) := by
  subst hk hp hw
  refine ⟨fun pins s σ H D I h => ?_⟩
  refine wpAny_Assign_Subscript (thn (hv.run pins s σ H _ I h) fun r s1 ⟨v, H1, I1, rv, q1⟩ => thn (ho.run pins s1 σ H1 _ I1 q1) fun u s2 ⟨x, H2, I2, rx, q2⟩ => thn (hi.run pins s2 σ H2 _ I2 q2) fun iv s3 ⟨y, H3, I3, ry, d, kvs, p, ex, hd, hb, hl, q3⟩ => ?_) hs
  subst ex
  obtain ⟨b, rfl, _⟩ := rp_dB hb
  obtain rfl : u = Value.ref d := rx
  obtain rfl : iv = Value.ref b := ry
  exact dy_put hu I3 hd hb hl rv fun H' s4 k t I4 dx => ⟨σ, H', I4, q3 H' k t dx⟩
def rSetY (K : PySem.W.Frag) (P : Program) (w : World) : TSet := fun o i v H Q => ∃ d kvs p, o = .ref d ∧ DY K P w H d kvs ∧ Rp K H i (dB p) ∧ kvs.length < 100000 ∧ ∀ H', (∀ a, a ≠ d → H' a = H a) → TEx H H' → DY K P w H' d (putK kvs p v) → Q H'
theorem set_dy (K : PySem.W.Frag) (P : Program) (w : World) (hu : X.A.units + 1 < cLine) (hk : X.K = K := by rfl) (hp : X.prog = P := by rfl) (hw : X.w = w := by rfl) : PSet X (rSetY K P w) := by
  subst hk hp hw
  intro pins s σ H o i v ov iv u Q I ro ri rv h
  obtain ⟨d, kvs, p, rfl, hd, hb, hl, q⟩ := h
  obtain ⟨b, rfl, _⟩ := rp_dB hb
  cases ro
  cases ri
  exact dy_put hu I hd hb hl rv fun H' s4 k t I4 dx => ⟨H', I4, q H' k t dx⟩
/-! ### sorted(d) -/
def sortY (ns : List End) : List End := ns.mergeSort (PySem.W.dataLe false dB)
theorem sortY_perm (ns : List End) : (sortY ns).Perm ns := List.mergeSort_perm ns _
theorem depth_dB (p : End) : (dB p).depth ≤ 1 := by simp [dB, PyData.depth, PyData.depthAll]
theorem alike_dB (p q : End) : PySem.W.alike (dB p) (dB q) = true := by
  simp [PySem.W.alike, PySem.W.alikeAll]
theorem each_y {K : PySem.W.Frag} {H : Hp} : ∀ {us : List Value} {ns : List End}, PySem.W.EachIs (fun v n => ∃ x, RelV x v ∧ Rp K H x (dB n)) us ns → ∃ vs, Vals vs us ∧ Rps K H vs (ns.map dB)
  | _, _, .nil => ⟨[], .nil, .nil⟩
  | _, _, .cons ⟨x, q, r⟩ t => by
    obtain ⟨vs, h1, h2⟩ := each_y t
    exact ⟨x :: vs, .cons q h1, .cons r h2⟩
def rSortY (K : PySem.W.Frag) (P : Program) (w : World) : List V → Hp → VK → Prop := fun xs H Q => ∃ d kvs, xs = [.ref d] ∧ DY K P w H d kvs ∧
  ∀ q ws, H q = none → Rps K H ws ((sortY (kvs.map (·.1))).map dB) → Q (.ref q) (upd H q (.lst ws))
theorem cr_sortY (K : PySem.W.Frag) (P : Program) (w : World) (hc : X.calm = true) (hu : X.A.units + 64 < cLine) (hk : X.K = K := by rfl) (hp : X.prog = P := by rfl) (hw : X.w = w := by rfl) : CallR X (.builtin "sorted") (rSortY K P w) := by
  subst hk hp hw
  intro pins s σ H xs us Q I r h
  obtain ⟨d, kvs, rfl, hd, q⟩ := h
  obtain ⟨u, rfl, rx⟩ := r.one
  cases rx
  obtain ⟨ks, h1, h2, o, es, ep, e1, e2, e3, e4, e5, e6⟩ := dy_of I hd
  have l1 : es.size = ks.length := size_of_entries e4
  have l2 : kvs.length = ks.length := h2.len
  have hL : (kvs.map (·.1)).length ≤ sizeLine := by rw [List.length_map]; exact sz_of hd.len
  refine sorted_by (enc := dB) (bs := kvs.map (·.1)) (RR := fun v n => ∃ x, RelV x v ∧ Rp X.K H x (dB n)) (fun R1 E1 kk => ?_) (fun a ha b hb => ?_) (.inl fun a ha => ?_) hL (fun b hb => by have := depth_dB b; omega) (fun h1' h2' tk out e k1 k2 he hl er => ?_)
  · refine PySem.W.kdu_collect (kdl_raw (es := es) (ep := ep) hd.nm e2 e3) (I.ok.hd hc) e1 (by rw [l1, ← l2]; exact sz_of hd.len) fun h1' tk acc k1 hacc => ?_
    have I1 : Inv X pins σ H { s with heap := h1', toks := tk } := I.kept k1
    have hv : ∀ (kv : List (End × V)) (kx : List XE) (us : List Value), DYR X.K H kv kx → us = kx.map (fun x => Value.ref x.2.1) → PySem.W.EachIs (fun v b => ∃ as, Reads h1' v (dB b) as) us (kv.map (·.1)) ∧ PySem.W.EachIs (fun v n => ∃ x, RelV x v ∧ Rp X.K H x (dB n)) us (kv.map (·.1)) := by
      intro kv kx us dr
      induction dr generalizing us with
      | nil => rintro rfl; exact ⟨.nil, .nil⟩
      | @cons p q ps qs a t ih =>
        rintro rfl
        obtain ⟨i1, i2⟩ := ih _ rfl
        obtain ⟨as, hr⟩ := Dp.reads I1 _ _ _ (Rp.dp (K := X.K) _ _ a.2.1) (show RelV (V.ref q.2.1) (Value.ref q.2.1) from rfl)
        exact ⟨.cons ⟨as, hr⟩ i1, .cons ⟨V.ref q.2.1, rfl, a.2.1⟩ i2⟩
    have hacc2 : acc.toList = ks.map fun x => Value.ref x.2.1 := by
      refine List.ext_getElem? fun j => ?_
      by_cases hj : j < ks.length
      · have e7 : ∃ v, acc[j]? = some v := ⟨acc[j]'(by rw [hacc.1, l1]; exact hj), Array.getElem?_eq_getElem _⟩
        obtain ⟨v, e7⟩ := e7
        obtain ⟨en, e8, rfl⟩ := hacc.2 j v e7
        rw [Array.getElem?_toList, e7, List.getElem?_map]
        rw [← Array.getElem?_toList, e4, List.getElem?_map, List.getElem?_eq_getElem hj] at e8
        rw [List.getElem?_eq_getElem hj]
        cases e8
        rfl
      · rw [List.getElem?_eq_none (by rw [Array.length_toList, hacc.1, l1]; omega), List.getElem?_eq_none (by rw [List.length_map]; omega)]
    obtain ⟨i1, i2⟩ := hv kvs ks _ h2 hacc2
    exact kk h1' tk _ k1 i1 i2
  · obtain ⟨a', _, rfl⟩ := List.mem_map.mp ha
    obtain ⟨b', _, rfl⟩ := List.mem_map.mp hb
    exact alike_dB a' b'
  · obtain ⟨a', _, rfl⟩ := List.mem_map.mp ha
    exact ⟨_, _, rfl⟩
  · obtain ⟨ws, v1, v2⟩ := each_y er
    have I1 : Inv X pins σ H { s with heap := h1' } := I.kept (t' := s.toks) k1
    have hn : H h1'.objs.size = none := I1.hok.fresh (Nat.le_refl _)
    have hz : ws.length ≤ sizeLine := by rw [v1.length, hl]; exact hL
    exact ⟨.ref h1'.objs.size, _, I1.laid (t' := tk) (o := .lst ws) k2 (Nat.le_refl _) ⟨hz, out, e, v1, he⟩, rfl, q _ ws hn v2⟩
end
/-! ### dict(list of pairs) -/
section
variable {X : Cx}
def rDictY (K : PySem.W.Frag) (P : Program) (w : World) : List V → Hp → VK → Prop := fun xs H Q => ∃ (l : Addr) (vs : List V) (ks : List (End × Int)), xs = [.ref l] ∧ H l = some (.lst vs) ∧ Rps K H vs (ks.map fun k => PyData.tuple [dB k.1, .int k.2]) ∧ (ks.map (·.1)).Nodup ∧ ks.length ≤ 1000 ∧
  ∀ d H', H d = none → Ex H H' → DY K P w H' d (ks.map fun k => (k.1, .int k.2)) → Q (.ref d) H'
theorem cr_dictY (K : PySem.W.Frag) (P : Program) (w : World) (hc : X.calm = true) (hu : X.A.units + 64 < cLine) (hk : X.K = K := by rfl) (hp : X.prog = P := by rfl) (hw : X.w = w := by rfl) : CallR X (.type "dict") (rDictY K P w) := by
  subst hk hp hw
  intro pins s σ H xs us Q I r h
  obtain ⟨l, vs, ks, rfl, hl, hr, nd, hz, q⟩ := h
  rw [Vals.ref1 r]
  obtain ⟨its, rv, pl, _⟩ := I.list (SqL.of hl)
  have get : ∀ (vs : List V) (its : List Value) (ks : List (End × Int)), Vals vs its → Rps X.K H vs (ks.map fun k => PyData.tuple [dB k.1, .int k.2]) → ∃ ps : List (Addr × XE), its = ps.map (fun p => Value.ref p.1) ∧ Paired (fun k p => IsTup s.heap p.1 #[.ref p.2.2.1, p.2.2.2] ∧ p.2.1 = kB k.1 ∧ Rp X.K H (.ref p.2.2.1) (dB k.1) ∧ RelV (.int k.2) p.2.2.2) ks ps := by
    intro vs its ks rv hr
    induction ks generalizing vs its with
    | nil =>
      cases hr
      cases rv
      exact ⟨[], rfl, .nil⟩
    | cons k ks ih =>
      rw [List.map_cons] at hr
      cases hr with
      | cons r t =>
        cases rv with
        | cons rx rt =>
          obtain ⟨a, xs, rfl, hs, rs⟩ := rp_tup r
          cases rs with
          | cons r1 t1 =>
            cases t1 with
            | cons r2 t2 =>
              cases t2
              cases r2
              obtain ⟨b, rfl, _⟩ := rp_dB r1
              obtain ⟨it2, rv2, tp, _⟩ := I.tuple hs
              obtain ⟨x, y, rfl, rb, ry⟩ := vals2 rv2
              cases rx
              cases rb
              obtain ⟨ps, rfl, pp⟩ := ih _ _ rt t
              exact ⟨(a, kB k.1, b, y) :: ps, rfl, .cons ⟨tp, rfl, r1, ry⟩ pp⟩
  obtain ⟨ps, rfl, pp⟩ := get _ _ _ rv hr
  have lp : ks.length = ps.length := Paired.length pp
  let es : List XE := ps.map (·.2)
  let pv : List (Value × Value) := ps.map fun p => (Value.ref p.2.2.1, p.2.2.2)
  have hdr : DYR X.K H (ks.map fun k => (k.1, V.int k.2)) es := by
    have : ∀ (ks : List (End × Int)) (ps : List (Addr × XE)), Paired (fun k p => IsTup s.heap p.1 #[.ref p.2.2.1, p.2.2.2] ∧ p.2.1 = kB k.1 ∧ Rp X.K H (.ref p.2.2.1) (dB k.1) ∧ RelV (.int k.2) p.2.2.2) ks ps → DYR X.K H (ks.map fun k => (k.1, V.int k.2)) (ps.map (·.2)) := by
      intro ks ps pp
      induction pp with
      | nil => exact .nil
      | cons a t ih => exact .cons ⟨a.2.1, a.2.2.1, a.2.2.2⟩ ih
    exact this _ _ pp
  have nd1 : ((ks.map fun k => (k.1, V.int k.2)).map (·.1)).Nodup := by rw [List.map_map]; exact nd
  have nde : (es.map (·.1)).Nodup := by rw [hdr.keys]; exact nodup_kB nd1
  have old : ∀ x ∈ es, ∃ p : End, x.1 = kB p ∧ Rp X.K H (.ref x.2.1) (dB p) := by
    have : ∀ (kvs : List (End × V)) (es : List XE), DYR X.K H kvs es → ∀ x ∈ es, ∃ p : End, x.1 = kB p ∧ Rp X.K H (.ref x.2.1) (dB p) := by
      intro kvs es dr
      induction dr with
      | nil => intro x hx; exact nomatch hx
      | cons a t ih =>
        intro x hx
        rcases List.mem_cons.mp hx with rfl | hx
        · exact ⟨_, a.1, a.2.1⟩
        · exact ih x hx
    exact this _ _ hdr
  have tups : ∀ (j : Nat) (p : Addr × XE), ps[j]? = some p → IsTup s.heap p.1 #[.ref p.2.2.1, p.2.2.2] := by
    have : ∀ (ks : List (End × Int)) (ps : List (Addr × XE)), Paired (fun k p => IsTup s.heap p.1 #[.ref p.2.2.1, p.2.2.2] ∧ p.2.1 = kB k.1 ∧ Rp X.K H (.ref p.2.2.1) (dB k.1) ∧ RelV (.int k.2) p.2.2.2) ks ps → ∀ p ∈ ps, IsTup s.heap p.1 #[.ref p.2.2.1, p.2.2.2] := by
      intro ks ps pp
      induction pp with
      | nil => intro x hx; exact nomatch hx
      | cons a t ih =>
        intro x hx
        rcases List.mem_cons.mp hx with rfl | hx
        · exact a.1
        · exact ih x hx
    exact fun j p hj => this _ _ pp p (List.mem_of_getElem? hj)
  obtain ⟨o, n, ho, hc', hd', hdat⟩ := pl
  have lpv : pv.length = ps.length := List.length_map _
  refine call_dict_pairsH (knd := tupleKind (mixKind X.prog X.w)) (ps := es) (PairArg.list l _ (fun j => (ps[j]?.map (·.1)).getD 0) pv) (I.ok.hd hc) (show X.A.units + 2 < cLine by omega) ⟨⟨o, n, ho, hc', hd', hdat⟩, by simp [pv], fun j k v hj => ?_⟩ ⟨by rw [lpv]; exact List.length_map _, fun i key v hi => ?_⟩ (fun h' hk x hx => ?_) (by rw [lpv, ← lp]; exact sz_of (by omega)) fun h' tk dd kept => ?_
  · obtain ⟨p, hp, e⟩ := Option.map_eq_some_iff.mp ((List.getElem?_map ..).symm.trans hj)
    cases e
    refine ⟨by simp [hp], .inl ?_⟩
    dsimp only
    rw [hp]
    exact tups j p hp
  · obtain ⟨p, hp, e⟩ := Option.map_eq_some_iff.mp ((List.getElem?_map ..).symm.trans hi)
    cases e
    exact ⟨p.2.1, p.2.2.1, by simp [es, hp], rfl⟩
  · obtain ⟨p, e, hp⟩ := old x hx
    obtain ⟨ob, its, m, g1, g2, g3, g4⟩ := key_y I hp
    rw [e]
    exact ⟨ob, its, m, hk _ _ (Nat.ne_of_lt (Heap.lt_size g1)) (by simp) g1, g2, g3, g4⟩
  · rw [storedAllH_nil_of_nodup _ nde] at dd
    have hn := I.hok.fresh (Nat.le_refl s.heap.objs.size)
    obtain ⟨o2, es2, ep2, e1, e2, e3, e4, _, e6⟩ := dd
    have hm : (s.heap.objs.size == sysModules) = false := beq_eq_false_iff_ne.mpr (Nat.ne_of_gt I.big)
    refine ⟨.ref s.heap.objs.size, upd H s.heap.objs.size (DXo X.prog X.w s.heap.objs.size es), I.laid (t' := tk) (fun b u e => kept b u (by simp) e) (Nat.le_refl _) ?_, rfl, q _ _ hn (Ex.new hn) ⟨⟨_, upd_same, hdr.up (exT (Ex.new hn))⟩, hm, nd1, by rw [List.length_map]; omega⟩⟩
    exact ⟨⟨o2, es2, ep2, e1, e2, e3, e4⟩, ⟨o2, e1⟩, fun g1 g2 ⟨o, es, ep, z1, z2⟩ st => ⟨o, es, ep, st _ z1, z2⟩⟩
end
end PR
end
section
set_option Elab.async false
set_option linter.all false
set_option maxRecDepth 100000
set_option maxHeartbeats 1600000
/-! The law's corners, in plain Lean. -/
namespace PR
open PySem PySem.Spec PyProof.Rows L2 Evl
abbrev GL := List (End × Int)
def gget : GL → End → Int
  | [], _ => 0
  | p :: r, k => if p.1 = k then p.2 else gget r k
def encG (gl : GL) : List (End × V) := gl.map fun p => (p.1, V.int p.2)
theorem encG_keys (gl : GL) : (encG gl).map (·.1) = gl.map (·.1) := by
  unfold encG
  rw [List.map_map]
  rfl
theorem encG_val : ∀ {gl : GL} {k : End}, k ∈ gl.map (·.1) → valV (encG gl) k = some (.int (gget gl k))
  | [], _, h => nomatch h
  | p :: r, k, h => by
    show valV ((p.1, V.int p.2) :: encG r) k = _
    by_cases e : p.1 = k
    · rw [valV_pos (p := (p.1, V.int p.2)) e, gget, if_pos e]
    · rw [valV_neg (p := (p.1, V.int p.2)) e, gget, if_neg e]
      refine encG_val ?_
      rcases List.mem_cons.mp h with h | h
      · exact absurd h.symm e
      · exact h
theorem encG_none : ∀ {gl : GL} {k : End}, k ∉ gl.map (·.1) → valV (encG gl) k = none
  | [], _, _ => rfl
  | p :: r, k, h => by
    show valV ((p.1, V.int p.2) :: encG r) k = _
    have e : ¬ p.1 = k := fun e => h (e ▸ List.mem_cons_self)
    rw [valV_neg (p := (p.1, V.int p.2)) e]
    exact encG_none fun z => h (List.mem_cons_of_mem _ z)
theorem encG_app (gl : GL) (k : End) (v : Int) : encG (gl ++ [(k, v)]) = encG gl ++ [(k, .int v)] := List.map_append
theorem gget_of : ∀ {gl : GL} {p : End × Int}, (gl.map (·.1)).Nodup → p ∈ gl → gget gl p.1 = p.2
  | [], _, _, h => nomatch h
  | q :: r, p, nd, h => by
    rw [List.map_cons, List.nodup_cons] at nd
    rcases List.mem_cons.mp h with rfl | h
    · rw [gget, if_pos rfl]
    · rw [gget, if_neg (fun e => nd.1 (List.mem_map.mpr ⟨p, h, e.symm⟩))]
      exact gget_of nd.2 h
def mrg (S : End → Bool) (gl : GL) (one other : Int) : GL := gl.map fun p => (p.1, if (S p.1 && decide (p.2 = other)) = true then one else p.2)
theorem mrg_keys (S : End → Bool) (gl : GL) (one other : Int) : (mrg S gl one other).map (·.1) = gl.map (·.1) := by
  unfold mrg
  rw [List.map_map]
  rfl
theorem mrg_get (S : End → Bool) (one other : Int) : ∀ (gl : GL) (k : End), k ∈ gl.map (·.1) → gget (mrg S gl one other) k = if (S k && decide (gget gl k = other)) = true then one else gget gl k
  | [], _, h => nomatch h
  | p :: r, k, h => by
    show gget ((p.1, if (S p.1 && decide (p.2 = other)) = true then one else p.2) :: mrg S r one other) k = _
    by_cases e : p.1 = k
    · subst e
      rw [gget, if_pos rfl]
      simp [gget]
    · rw [gget, if_neg e, mrg_get S one other r k ?_]
      · simp [gget, e]
      · rcases List.mem_cons.mp h with h | h
        · exact absurd h.symm e
        · exact h
/-- one node of the loop over sorted(d) -/
theorem mrg_put {S S' : End → Bool} {gl : GL} {one other : Int} {k : End} (nd : (gl.map (·.1)).Nodup) (hk : k ∈ gl.map (·.1)) (hS : S k = false) (hS' : ∀ j, S' j = (S j || decide (j = k))) (h : gget gl k = other) :
    putK (encG (mrg S gl one other)) k (.int one) = encG (mrg S' gl one other) := by
  have z : ((encG (mrg S gl one other)).any fun kv => decide (kv.1 = k)) = true := by
    rw [valV_any, encG_val (by rw [mrg_keys]; exact hk)] <;> rfl
  unfold putK
  rw [if_pos z]
  unfold encG mrg
  rw [List.map_map, List.map_map, List.map_map]
  refine List.map_congr_left fun p hp => ?_
  show (if p.1 = k then (p.1, V.int one) else (p.1, V.int (if (S p.1 && decide (p.2 = other)) = true then one else p.2))) = (p.1, V.int (if (S' p.1 && decide (p.2 = other)) = true then one else p.2))
  by_cases e : p.1 = k
  · have e2 : p.2 = other := by rw [← h, ← e, gget_of nd hp]
    rw [if_pos e, hS', e2, e]
    simp
  · rw [if_neg e, hS']
    simp [e]
theorem mrg_not {S S' : End → Bool} {gl : GL} {one other : Int} {k : End} (nd : (gl.map (·.1)).Nodup) (hS' : ∀ j, S' j = (S j || decide (j = k))) (h : gget gl k ≠ other) :
    mrg S gl one other = mrg S' gl one other := by
  unfold mrg
  refine List.map_congr_left fun p hp => ?_
  by_cases e : p.1 = k
  · have e2 : p.2 ≠ other := by rw [← gget_of nd hp, e]; exact h
    simp [e2]
  · rw [hS']
    simp [e]
theorem mrg_none (gl : GL) (one other : Int) : mrg (fun _ => false) gl one other = gl := by
  unfold mrg
  simp
theorem mrg_congr {S S' : End → Bool} {gl : GL} {one other : Int} (h : ∀ k, k ∈ gl.map (·.1) → S k = S' k) : mrg S gl one other = mrg S' gl one other := by
  unfold mrg
  refine List.map_congr_left fun p hp => ?_
  rw [h p.1 (List.mem_map.mpr ⟨p, hp, rfl⟩)]
/-! ### the start -/
def gUps (n : Nat) : GL := (List.range (n + 1)).map fun i : Nat => ((true, (i : Int)), (i : Int))
def gDowns (n i : Nat) : GL := gUps n ++ (List.range i).map fun j : Nat => ((false, 1 + (j : Int)), (n : Int) + (1 + (j : Int)))
def gStart (n : Nat) : GL := gDowns n (n - 1) ++ [((false, 0), 0)] ++ [((false, (n : Int)), (n : Int))]
theorem mem_gUps {n : Nat} {k : End} : k ∈ (gUps n).map (·.1) ↔ ∃ i : Nat, i ≤ n ∧ k = (true, (i : Int)) := by
  unfold gUps
  rw [List.map_map, List.mem_map]
  constructor
  · rintro ⟨i, hi, rfl⟩
    exact ⟨i, by have := List.mem_range.mp hi; omega, rfl⟩
  · rintro ⟨i, hi, rfl⟩
    exact ⟨i, List.mem_range.mpr (by omega), rfl⟩
theorem mem_gDowns {n i : Nat} {k : End} : k ∈ (gDowns n i).map (·.1) ↔ (∃ j : Nat, j ≤ n ∧ k = (true, (j : Int))) ∨ ∃ j : Nat, j < i ∧ k = (false, 1 + (j : Int)) := by
  unfold gDowns
  rw [List.map_append, List.mem_append, mem_gUps, List.map_map, List.mem_map]
  refine or_congr Iff.rfl ⟨?_, ?_⟩
  · rintro ⟨j, hj, rfl⟩
    exact ⟨j, List.mem_range.mp hj, rfl⟩
  · rintro ⟨j, hj, rfl⟩
    exact ⟨j, List.mem_range.mpr hj, rfl⟩
theorem gDowns_succ (n i : Nat) : gDowns n (i + 1) = gDowns n i ++ [((false, 1 + (i : Int)), (n : Int) + (1 + (i : Int)))] := by
  unfold gDowns
  rw [List.range_succ, List.map_append, List.append_assoc]
  rfl
theorem mem_gStart {n : Nat} {b : Bool} {j : Nat} (hj : j ≤ n) : (b, (j : Int)) ∈ (gStart n).map (·.1) := by
  unfold gStart
  rw [List.map_append, List.mem_append, List.map_append, List.mem_append, mem_gDowns]
  cases b with
  | true => exact .inl (.inl (.inl ⟨j, hj, rfl⟩))
  | false =>
    by_cases h0 : j = 0
    · subst h0; exact .inl (.inr (List.mem_singleton.mpr rfl))
    · by_cases h1 : j = n
      · subst h1; exact .inr (List.mem_singleton.mpr rfl)
      · exact .inl (.inl (.inr ⟨j - 1, by omega, by rw [show (1 : Int) + ((j - 1 : Nat) : Int) = j by omega]⟩))
/-! ### the merging -/
def gAll : End → Bool := fun _ => true
def gStep (gl : GL) (i m d : Int) : GL := mrg gAll gl (gget gl (true, i + m)) (gget gl (false, d + m))
def gTwo (gl : GL) (i d : Int) : GL := gStep (gStep gl i 0 d) i 1 d
def gRun (pl : List Int) : Nat → GL
  | 0 => gStart pl.length
  | i + 1 => gTwo (gRun pl i) (i : Int) (pl.getD i 0)
theorem gStep_keys (gl : GL) (i m d : Int) : (gStep gl i m d).map (·.1) = gl.map (·.1) := mrg_keys _ _ _ _
theorem gTwo_keys (gl : GL) (i d : Int) : (gTwo gl i d).map (·.1) = gl.map (·.1) := (gStep_keys _ _ _ _).trans (gStep_keys _ _ _ _)
theorem gRun_keys (pl : List Int) : ∀ i, (gRun pl i).map (·.1) = (gStart pl.length).map (·.1)
  | 0 => rfl
  | i + 1 => (gTwo_keys _ _ _).trans (gRun_keys pl i)
/-! ### the groups -/
abbrev GR := List (Int × List Int)
def addG (g : GR) (k : Int) (i : Int) : GR := if (g.any fun p => decide (p.1 = k)) = true then g.map (fun p => if p.1 = k then (p.1, p.2 ++ [i]) else p) else g ++ [(k, [i])]
def grps (gl : GL) : Nat → GR
  | 0 => []
  | i + 1 => addG (grps gl i) (gget gl (true, (i : Int))) (i : Int)
def cornL (pl : List Int) : List (List Int) := (grps (gRun pl pl.length) (pl.length + 1)).map (·.2)
theorem addG_len (g : GR) (k i : Int) : (addG g k i).length ≤ g.length + 1 := by
  unfold addG
  split <;> simp
theorem grps_len (gl : GL) : ∀ i, (grps gl i).length ≤ i
  | 0 => Nat.le_refl _
  | i + 1 => Nat.le_trans (addG_len _ _ _) (Nat.succ_le_succ (grps_len gl i))
theorem addG_ne {g : GR} {k i : Int} (h : ∀ p ∈ g, p.2 ≠ []) : ∀ p ∈ addG g k i, p.2 ≠ [] := by
  unfold addG
  split
  · intro p hp
    obtain ⟨q, hq, rfl⟩ := List.mem_map.mp hp
    split
    · simp
    · exact h q hq
  · intro p hp
    rcases List.mem_append.mp hp with hp | hp
    · exact h p hp
    · rw [List.mem_singleton.mp hp]; simp
theorem grps_ne (gl : GL) : ∀ i, ∀ p ∈ grps gl i, p.2 ≠ []
  | 0 => fun _ h => nomatch h
  | i + 1 => addG_ne (grps_ne gl i)
theorem addG_sz {g : GR} {k i : Int} {m : Nat} (h : ∀ p ∈ g, p.2.length ≤ m) : ∀ p ∈ addG g k i, p.2.length ≤ m + 1 := by
  unfold addG
  split
  · intro p hp
    obtain ⟨q, hq, rfl⟩ := List.mem_map.mp hp
    have := h q hq
    split
    · simp; omega
    · omega
  · intro p hp
    rcases List.mem_append.mp hp with hp | hp
    · have := h p hp; omega
    · rw [List.mem_singleton.mp hp]; simp
theorem grps_sz (gl : GL) : ∀ i, ∀ p ∈ grps gl i, p.2.length ≤ i
  | 0 => fun _ h => nomatch h
  | i + 1 => addG_sz (grps_sz gl i)
theorem addG_nodup {g : GR} {k i : Int} (h : (g.map (·.1)).Nodup) : ((addG g k i).map (·.1)).Nodup := by
  unfold addG
  split
  · rw [List.map_map]
    rw [List.map_congr_left (g := fun p => p.1)]
    · exact h
    · intro p _
      show (if p.1 = k then (p.1, p.2 ++ [i]) else p).1 = p.1
      split <;> rfl
  · rename_i hn
    rw [List.map_append, List.nodup_append]
    refine ⟨h, List.nodup_cons.mpr ⟨List.not_mem_nil, List.nodup_nil⟩, fun a ha c hc z => ?_⟩
    obtain rfl : c = k := by simpa using hc
    subst z
    obtain ⟨p, hp, e⟩ := List.mem_map.mp ha
    exact hn (List.any_eq_true.mpr ⟨p, hp, decide_eq_true e⟩)
theorem grps_nodup (gl : GL) : ∀ i, ((grps gl i).map (·.1)).Nodup
  | 0 => List.nodup_nil
  | i + 1 => addG_nodup (grps_nodup gl i)
end PR
end
section
set_option Elab.async false
set_option linter.all false
set_option maxRecDepth 100000
set_option maxHeartbeats 1600000
/-! PrT1: tables of sets up to mask 511: each slot is met by each search. -/
namespace BT
open PySem PySem.Spec PyProof.Rows L2
/-! ### the round -/
def orb (m : Nat) : Nat → Nat → List Nat
  | _, 0 => []
  | i, n + 1 => i :: orb m ((i * 5 + 1) % (m + 1)) n
theorem lcg_in (m i : Nat) : ∀ k, lcgI m ((i * 5 + 1) % (m + 1)) k = lcgI m i (k + 1)
  | 0 => rfl
  | k + 1 => by
    show (lcgI m _ k * 5 + 1) % (m + 1) = (lcgI m i (k + 1) * 5 + 1) % (m + 1)
    rw [lcg_in m i k]
theorem orb_mem (m : Nat) : ∀ (n i j : Nat), j ∈ orb m i n → ∃ k, k < n ∧ lcgI m i k = j
  | 0, _, _, h => nomatch h
  | n + 1, i, j, h => by
    rcases List.mem_cons.mp h with rfl | h
    · exact ⟨0, Nat.succ_pos _, rfl⟩
    · obtain ⟨k, hk, e⟩ := orb_mem m n _ j h
      exact ⟨k + 1, Nat.succ_lt_succ hk, by rw [← lcg_in]; exact e⟩
def Full (m : Nat) : Prop := ∀ i j, i ≤ m → j ≤ m → ∃ k, k ≤ m ∧ lcgI m i k = j
theorem lcgI_add (m i a : Nat) : ∀ k, lcgI m (lcgI m i a) k = lcgI m i (a + k)
  | 0 => rfl
  | k + 1 => by
    show (lcgI m _ k * 5 + 1) % (m + 1) = (lcgI m i (a + k) * 5 + 1) % (m + 1)
    rw [lcgI_add m i a k]
theorem full_of {m : Nat} (h : ((List.range (m + 1)).all fun j => (orb m 0 (m + 1)).contains j) = true) (hr : lcgI m 0 (m + 1) = 0) : Full m := by
  have meet : ∀ j, j ≤ m → ∃ k, k ≤ m ∧ lcgI m 0 k = j := fun j hj => by
    have h1 := List.all_eq_true.mp h j (List.mem_range.mpr (Nat.lt_succ_of_le hj))
    obtain ⟨k, hk, e⟩ := orb_mem m _ _ _ (List.contains_iff_mem.mp h1)
    exact ⟨k, Nat.le_of_lt_succ hk, e⟩
  intro i j hi hj
  obtain ⟨a, ha, ea⟩ := meet i hi
  obtain ⟨b, hb, eb⟩ := meet j hj
  rcases Nat.lt_or_ge b a with c | c
  · refine ⟨(m + 1 - a) + b, by omega, ?_⟩
    rw [← ea, lcgI_add, show a + (m + 1 - a + b) = (m + 1) + b by omega, ← lcgI_add, hr, eb]
  · refine ⟨b - a, by omega, ?_⟩
    rw [← ea, lcgI_add, show a + (b - a) = b by omega, eb]
theorem full7 : Full 7 := full_of (by decide +kernel) (by decide +kernel)
theorem full31 : Full 31 := full_of (by decide +kernel) (by decide +kernel)
theorem full127 : Full 127 := full_of (by decide +kernel) (by decide +kernel)
theorem full511 : Full 511 := full_of (by decide +kernel) (by decide +kernel)
def Good (m : Nat) : Prop := m = 7 ∨ m = 31 ∨ m = 127 ∨ m = 511
theorem Good.full {m : Nat} (h : Good m) : Full m := by
  rcases h with rfl | rfl | rfl | rfl
  · exact full7
  · exact full31
  · exact full127
  · exact full511
theorem Good.odd {m : Nat} (h : Good m) : m % 2 = 1 := by rcases h with rfl | rfl | rfl | rfl <;> rfl
theorem Good.le {m : Nat} (h : Good m) : m ≤ 511 := by rcases h with rfl | rfl | rfl | rfl <;> decide
/-! ### each slot is met -/
theorem way_in {m : Nat} {h : Int} {k : Nat} : way m h k ≤ m := by
  have hi : SetTable.bits h % (m + 1) ≤ m := Nat.le_of_lt_succ (Nat.mod_lt _ (Nat.succ_pos _))
  have r := runEnd_bd hi
  have q := nth_in (m := m) k (runAt m (SetTable.bits h % (m + 1)) (SetTable.bits h)) (by
    show SetTable.bits h % (m + 1) + (SetTable.runEnd m (SetTable.bits h % (m + 1)) - SetTable.bits h % (m + 1)) ≤ m
    omega)
  exact Nat.le_trans (Nat.le_add_right _ _) q
theorem run_at {m : Nat} (hm : Good m) (h : Int) {j : Nat} (hj : j ≤ m) : ∃ n, n ≤ m + 12 ∧ runI m (SetTable.bits h) n = j := by
  obtain ⟨k, hk, e⟩ := hm.full _ j (runI_le m (SetTable.bits h) 12) hj
  exact ⟨12 + k, by omega, (runI_tail (bits_lt h) k).trans e⟩
theorem way_meets {m : Nat} (hm : Good m) (h : Int) {j : Nat} (hj : j ≤ m) : ∃ k, k < 10 * SetTable.turns m ∧ way m h k = j := by
  obtain ⟨n, hn, e⟩ := run_at hm h hj
  obtain ⟨k, hk, e2⟩ := run_nth m (SetTable.bits h) n
  exact ⟨k, by unfold SetTable.turns; omega, (congrArg SetTable.Probe.j e2).trans e⟩
/-! ### tables -/
structure Tab (t : SetTable) (hs : List Int) : Prop where
  ris : Ris t.place.toList
  dm : t.dummies = #[]
  sz : t.place.size = hs.length
  good : Good t.mask
  bd : ∀ x ∈ t.place.toList, x ≤ t.mask
  reach : ∀ (i : Nat) (h : Int) (j : Nat), hs[i]? = some h → t.place.toList[i]? = some j → ∃ k, way t.mask h k = j ∧ ∀ k', k' < k → way t.mask h k' ∈ t.place.toList
variable {t : SetTable} {hs : List Int}
theorem Tab.first (T : Tab t hs) (hl : hs.length ≤ t.mask) (h : Int) : ∃ K, K < 10 * SetTable.turns t.mask ∧ way t.mask h K ∉ t.place.toList ∧ ∀ k, k < K → way t.mask h k ∈ t.place.toList := by
  obtain ⟨j, hj, hn⟩ := st_missing t.place.toList (t.mask + 1) (by rw [Array.length_toList, T.sz]; omega)
  obtain ⟨k, hk, e⟩ := way_meets T.good h (Nat.le_of_lt_succ hj)
  obtain ⟨K, h1, h2, h3⟩ := st_least (p := fun k => way t.mask h k ∉ t.place.toList) k (by show way t.mask h k ∉ _; rw [e]; exact hn)
  exact ⟨K, Nat.lt_of_le_of_lt h1 hk, h2, fun k' hk' => Classical.byContradiction (h3 k' hk')⟩
theorem Tab.before (T : Tab t hs) {h : Int} {K i j : Nat} (hK : way t.mask h K ∉ t.place.toList) (hi : hs[i]? = some h) (hj : t.place.toList[i]? = some j) : ∃ k, k < K ∧ way t.mask h k = j := by
  obtain ⟨k, e, hb⟩ := T.reach i h j hi hj
  refine ⟨k, Nat.lt_of_not_le fun z => ?_, e⟩
  rcases Nat.lt_or_eq_of_le z with c | c
  · exact hK (hb K c)
  · rw [c, e] at hK
    exact hK (List.mem_of_getElem? hj)
/-- one more, at the first empty slot of its way -/
theorem Tab.put (T : Tab t hs) {h : Int} {K : Nat} (hK : way t.mask h K ∉ t.place.toList) (hb : ∀ k, k < K → way t.mask h k ∈ t.place.toList) :
    SetTable.below t.place (way t.mask h K) ≤ hs.length ∧
    Tab (t.put (way t.mask h K)).1 (hs.take (SetTable.below t.place (way t.mask h K)) ++ h :: hs.drop (SetTable.below t.place (way t.mask h K))) ∧ (t.put (way t.mask h K)).1.fill = hs.length + 1 := by
  have hw : way t.mask h K ≤ t.mask := way_in
  obtain ⟨j, hj⟩ : ∃ j, j = way t.mask h K := ⟨_, rfl⟩
  rw [← hj] at hK hw ⊢
  obtain ⟨c1, _, _⟩ := below_cut T.ris j
  have p1 : SetTable.below t.place j ≤ t.place.toList.length := by rw [Array.length_toList]; exact c1
  have p2 : SetTable.below t.place j ≤ hs.length := by rw [← T.sz]; exact c1
  have pp := put_place t j
  have hsize : (t.put j).1.place.size = hs.length + 1 := by rw [← Array.length_toList, pp, len_ins _ p1, Array.length_toList, T.sz]
  have old : ∀ {x : Nat}, x ∈ t.place.toList → x ∈ (t.put j).1.place.toList := fun hx => by rw [pp]; exact mem_ins.2 (.inr hx)
  have np : t.place[SetTable.below t.place j]? ≠ some j := fun e => hK (List.mem_of_getElem? (by rw [Array.getElem?_toList]; exact e))
  refine ⟨p2, ⟨ris_insert T.ris np, put_dm T.dm j, by rw [len_ins _ p2]; exact hsize, T.good, fun x hx => ?_, fun i h' j' h1 h2 => ?_⟩, ?_⟩
  · rw [pp] at hx
    rcases mem_ins.1 hx with rfl | z
    · exact hw
    · exact T.bd x z
  · rw [tins_get hs p2] at h1
    rw [pp, tins_get _ p1] at h2
    show ∃ k, way t.mask h' k = j' ∧ ∀ k', k' < k → way t.mask h' k' ∈ (t.put j).1.place.toList
    by_cases c : i < SetTable.below t.place j
    · rw [if_pos c] at h1 h2
      obtain ⟨k, e, z⟩ := T.reach i h' j' h1 h2
      exact ⟨k, e, fun k' hk' => old (z k' hk')⟩
    · rw [if_neg c] at h1 h2
      by_cases d : i = SetTable.below t.place j
      · rw [if_pos d] at h1 h2
        cases h1
        cases h2
        exact ⟨K, hj.symm, fun k' hk' => old (hb k' hk')⟩
      · rw [if_neg d] at h1 h2
        obtain ⟨k, e, z⟩ := T.reach (i - 1) h' j' h1 h2
        exact ⟨k, e, fun k' hk' => old (z k' hk')⟩
  · show (t.put j).1.place.size + (t.put j).1.dummies.size = hs.length + 1
    rw [hsize, put_dm T.dm j] <;> rfl
/-! ### laid anew -/
theorem free_at {m : Nat} (hm : Good m) (owner : Array (Option Nat)) (h : Int) {j : Nat} (hj : j ≤ m) (hf : oAt owner j = none) :
    ∃ K, SetTable.layClean.free m owner (SetTable.turns m) (SetTable.bits h % (m + 1)) (SetTable.bits h) = some (way m h K) ∧ oAt owner (way m h K) = none ∧ ∀ k, k < K → oAt owner (way m h k) ≠ none := by
  obtain ⟨n, hn, e⟩ := run_at hm h hj
  have hw : way m h (off m (SetTable.bits h % (m + 1)) (SetTable.bits h) n) = j := by
    show (nth m _ (off m _ _ n)).j = j
    rw [nth_off, itL_run]
    exact e
  obtain ⟨K, k1, k2, k3⟩ := st_least (p := fun k => oAt owner (way m h k) = none) _ (show oAt owner (way m h (off m (SetTable.bits h % (m + 1)) (SetTable.bits h) n)) = none by rw [hw]; exact hf)
  refine ⟨K, free_spec m owner (SetTable.turns m) n _ _ K (by unfold SetTable.turns; omega) k1 (fun k hk => ?_) (by rw [k2] <;> rfl), k2, k3⟩
  cases z : oAt owner (way m h k) with
  | none => exact absurd z (k3 k hk)
  | some _ => rfl
theorem own_step {m : Nat} (hm : Good m) {done : List Int} {owner : Array (Option Nat)} (W : Own m done owner) (hl : done.length ≤ m) (h : Int) :
    ∃ j, SetTable.layClean.free m owner (SetTable.turns m) (SetTable.bits h % (m + 1)) (SetTable.bits h) = some j ∧ Own m (done ++ [h]) (owner.setIfInBounds j (some done.length)) := by
  obtain ⟨ps, hps, hin⟩ := W.ps
  obtain ⟨j0, h0, hn0⟩ := st_missing ps (m + 1) (by omega)
  have hj0 : oAt owner j0 = none := Classical.byContradiction fun z => hn0 (hin j0 (Nat.le_of_lt_succ h0) z)
  obtain ⟨K, e1, e2, e3⟩ := free_at hm owner h (Nat.le_of_lt_succ h0) hj0
  have hjm : way m h K ≤ m := way_in
  have hself := oAt_set_self (some done.length) (show way m h K < owner.size by rw [W.sz]; exact Nat.lt_succ_of_le hjm)
  have up : ∀ {i : Nat}, oAt owner i ≠ none → oAt (owner.setIfInBounds (way m h K) (some done.length)) i ≠ none := fun {i} hi => by
    by_cases c : i = way m h K
    · rw [c, hself]; exact fun e => nomatch e
    · rw [oAt_set_ne _ c]; exact hi
  refine ⟨way m h K, e1, by rw [Array.size_setIfInBounds]; exact W.sz, fun j k hj e => ?_, fun k hk => ?_, way m h K :: ps, by rw [List.length_cons, List.length_append, hps] <;> rfl, fun j hj e => ?_⟩
  · by_cases c : j = way m h K
    · rw [c, hself] at e
      cases e
      exact ⟨h, K, by rw [List.getElem?_append_right (Nat.le_refl _), Nat.sub_self] <;> rfl, c.symm, fun k' hk' => up (e3 k' hk')⟩
    · rw [oAt_set_ne _ c] at e
      obtain ⟨h', K', a1, a2, a3⟩ := W.at_ j k hj e
      exact ⟨h', K', by rw [List.getElem?_append_left (List.getElem?_eq_some_iff.mp a1).1]; exact a1, a2, fun k' hk' => up (a3 k' hk')⟩
  · rw [List.length_append, List.length_singleton] at hk
    by_cases c : k < done.length
    · obtain ⟨j, hj, e⟩ := W.all k c
      exact ⟨j, hj, by rw [oAt_set_ne _ (fun z => by rw [z, e2] at e; cases e)]; exact e⟩
    · obtain rfl : k = done.length := by omega
      exact ⟨way m h K, hjm, hself⟩
  · by_cases c : j = way m h K
    · rw [c]; exact List.mem_cons_self
    · rw [oAt_set_ne _ c] at e
      exact List.mem_cons_of_mem _ (hin j hj e)
theorem own_fold {m : Nat} (hm : Good m) : ∀ (rest done : List Int) (owner : Array (Option Nat)), Own m done owner → done.length + rest.length ≤ m →
    ∃ owner', rest.foldl (stepF m) (some (owner, done.length)) = some (owner', (done ++ rest).length) ∧ Own m (done ++ rest) owner'
  | [], done, owner, W, _ => ⟨owner, by rw [List.append_nil] <;> rfl, by rw [List.append_nil]; exact W⟩
  | h :: rest, done, owner, W, hl => by
    rw [List.length_cons] at hl
    obtain ⟨j, e, W'⟩ := own_step hm W (by omega) h
    have hl' : (done ++ [h]).length = done.length + 1 := by rw [List.length_append] <;> rfl
    obtain ⟨owner', f, W2⟩ := own_fold hm rest (done ++ [h]) _ W' (by rw [hl']; omega)
    rw [List.append_assoc, hl'] at f
    rw [List.append_assoc] at W2
    exact ⟨owner', by rw [List.foldl_cons, stepF_some e]; exact f, W2⟩
theorem relaid_at (t : SetTable) {hs : Array Int} {wanted M : Nat} (hw : SetTable.sizeAbove wanted - 1 = M) (hM : Good M) (hn : hs.size ≤ M) :
    ∃ t' order, t.relaid hs wanted = some (t', order) ∧ order.toList.Perm (List.range hs.size) ∧ Tab t' (order.toList.map fun i => hs.getD i 0) ∧ t'.mask = M ∧ t'.led = t.led ∧ t'.plain = t.plain := by
  obtain ⟨owner, f, W⟩ := own_fold hM hs.toList [] _ (Own.init M) (by rw [Array.length_toList]; show 0 + hs.size ≤ M; omega)
  rw [List.nil_append] at W f
  have hr : t.relaid hs wanted = some (tabOf t M owner, ((liveOf M owner).map (·.2)).toArray) := by
    have f' : hs.toList.foldl (stepF M) (some (Array.replicate (M + 1) none, 0)) = some (owner, hs.toList.length) := f
    rw [relaid_eq, hw, layClean_eq, f'] <;> rfl
  have ris := ris_live (fun j => owner.getD j none) (List.range (M + 1)) (by unfold Ris; first | exact List.pairwise_lt_range | exact List.pairwise_lt_range _)
  have r1 : Ris ((liveOf M owner).map (·.1)) := ris.1
  have r2 : ∀ x ∈ (liveOf M owner).map (·.1), x ∈ List.range (M + 1) := ris.2
  have nd : ((liveOf M owner).map (·.1)).Nodup := List.Pairwise.imp (fun h => Nat.ne_of_lt h) r1
  have there : ∀ k, k < hs.size → k ∈ (liveOf M owner).map (·.2) := fun k hk => by
    obtain ⟨j, b1, b2⟩ := W.all k (by rw [Array.length_toList]; exact hk)
    exact List.mem_map.mpr ⟨(j, k), (mem_live W.sz).2 ⟨b1, b2⟩, rfl⟩
  have hlen : (liveOf M owner).length = hs.size := by
    obtain ⟨ps, p1, p2⟩ := W.ps
    have a := nat_nodup_len ((liveOf M owner).map (·.1)) ps nd fun x hx => by
      obtain ⟨⟨y, k⟩, hq, rfl⟩ := List.mem_map.mp hx
      obtain ⟨b1, b2⟩ := (mem_live W.sz).1 hq
      exact p2 y b1 (by rw [b2]; exact fun z => nomatch z)
    have b := nat_nodup_len (List.range hs.size) ((liveOf M owner).map (·.2)) List.nodup_range fun k hk => there k (List.mem_range.mp hk)
    have hz : hs.toList.length = hs.size := rfl
    rw [List.length_map, p1, hz] at a
    rw [List.length_map, List.length_range] at b
    omega
  refine ⟨tabOf t M owner, _, hr, perm_range hs.size _ (by show ((liveOf M owner).map (·.2)).length = hs.size; rw [List.length_map]; exact hlen) there, ⟨r1, rfl, ?_, hM, fun x hx => Nat.le_of_lt_succ (List.mem_range.mp (r2 x hx)), fun i h j h1 h2 => ?_⟩, rfl, rfl, rfl⟩
  · show ((liveOf M owner).map (·.1)).toArray.size = (((liveOf M owner).map (·.2)).map fun i => hs.getD i 0).length
    simp
  · have h1 : (((liveOf M owner).map (·.2)).map fun i => hs.getD i 0)[i]? = some h := h1
    have h2 : ((liveOf M owner).map (·.1))[i]? = some j := h2
    rw [List.getElem?_map, List.getElem?_map] at h1
    rw [List.getElem?_map] at h2
    cases hq : (liveOf M owner)[i]? with
    | none => rw [hq] at h2; cases h2
    | some q =>
      obtain ⟨y, k⟩ := q
      rw [hq] at h1 h2
      cases h2
      obtain ⟨b1, b2⟩ := (mem_live W.sz).1 (List.mem_of_getElem? hq)
      obtain ⟨h0, K, a1, a2, a3⟩ := W.at_ _ k b1 b2
      have e0 : hs.getD k 0 = h0 := by rw [Array.getD_eq_getD_getElem?, ← Array.getElem?_toList, a1] <;> rfl
      obtain rfl : h0 = h := e0.symm.trans (Option.some.inj h1)
      refine ⟨K, a2, fun k' hk' => ?_⟩
      show way M h0 k' ∈ (liveOf M owner).map (·.1)
      cases z : oAt owner (way M h0 k') with
      | none => exact absurd z (a3 k' hk')
      | some k2 => exact List.mem_map.mpr ⟨(way M h0 k', k2), (mem_live W.sz).2 ⟨way_in, z⟩, rfl⟩
theorem size_5 : SetTable.sizeAbove (SetTable.grown 5) = 32 := by decide +kernel
theorem size_19 : SetTable.sizeAbove (SetTable.grown 19) = 128 := by decide +kernel
theorem size_77 : SetTable.sizeAbove (SetTable.grown 77) = 512 := by decide +kernel
end BT
end
section
set_option Elab.async false
set_option linter.all false
set_option maxRecDepth 100000
set_option maxHeartbeats 1600000
/-! PrT2: sets of up to 300 tuples of ints: search, adding. -/
namespace BT
open PySem PySem.Spec PyProof.Rows L2
structure Big (P : Program) (w : World) (h : Heap) (a : Addr) (L : List (Addr × List Int)) (es : Array (Int × Value)) (ep : Nat) (t : SetTable) : Prop where
  ob : ∃ o, h.get? a = some o ∧ o.ExactSet ∧ o.data = .set es ep t
  rows : es.toList = rowsOf P w L
  tab : Tab t (L.map fun p => thash P w p.2)
  nd : (L.map (·.2)).Nodup
  tup : ∀ p ∈ L, IsT P w h p.2 p.1
  plain : t.plain = true
  led : w.params.followText "set-order" = true ∨ t.led = true
  room : L.length * 5 < t.mask * 3
  few : L.length ≤ 300
section
variable {P : Program} {w : World} {A : Around} {E : Value → Shared → Prop} {s : Shared} {a : Addr} {L : List (Addr × List Int)} {es : Array (Int × Value)} {ep : Nat} {t : SetTable}
theorem rows_size (h : es.toList = rowsOf P w L) : es.size = L.length := by
  have := congrArg List.length h
  unfold rowsOf at this
  rwa [Array.length_toList, List.length_map] at this
theorem fits_of (h1 : t.place.size = es.size) (h2 : t.dummies = #[]) (h3 : es.size ≤ t.mask) : t.fits es.size = true := by
  unfold SetTable.fits SetTable.fill
  rw [h2, Bool.and_eq_true, beq_iff_eq, decide_eq_true_eq]
  show t.place.size = es.size ∧ t.place.size + 0 ≤ t.mask
  omega
theorem Big.size (R : Big P w s.heap a L es ep t) : es.size = L.length := rows_size R.rows
theorem Big.psz (R : Big P w s.heap a L es ep t) : t.place.size = L.length := by
  have := R.tab.sz
  rwa [List.length_map] at this
theorem Big.fits (R : Big P w s.heap a L es ep t) : t.fits es.size = true := by
  have h1 := R.psz
  have h2 := R.size
  have h3 := R.room
  exact fits_of (by omega) R.tab.dm (by omega)
theorem Big.entry (R : Big P w s.heap a L es ep t) {i : Nat} {p : Addr × List Int} (h : L[i]? = some p) : es[i]? = some (thash P w p.2, Value.ref p.1) := by
  rw [← Array.getElem?_toList, R.rows]
  unfold rowsOf
  rw [List.getElem?_map, h] <;> rfl
theorem Big.gw (R : Big P w s.heap a L es ep t) : ¬ t.gaveWay = true := by
  unfold SetTable.gaveWay
  rw [R.tab.good.odd]
  decide
theorem nth_dm (m : Nat) : ∀ (n : Nat) (p : SetTable.Probe), p.dummy = none → (nth m p n).dummy = none
  | 0, _, h => h
  | n + 1, p, h => nth_dm m n (adv m p) (by unfold adv; split <;> exact h)
/-- the first state of a search -/
abbrev st0 (m : Nat) (h : Int) : SetTable.Probe := runAt m (SetTable.bits h % (m + 1)) (SetTable.bits h)
theorem st_sh (m : Nat) (h : Int) (c q : Nat) : nth m (nth m (st0 m h) c) q = nth m (st0 m h) (c + q) := (nth_add m c _ q).symm
/-- the search, from the c-th step of its way on -/
theorem look (R : Big P w s.heap a L es ep t) {x : Addr} {k : List Int} (hx : IsT P w s.heap k x) (hu : A.units < cLine) (ad : Bool) {K : Nat} (hKf : K < 10 * SetTable.turns t.mask)
    (hK : way t.mask (thash P w k) K ∉ t.place.toList) (hKb : ∀ c, c < K → way t.mask (thash P w k) c ∈ t.place.toList) {Q : SetFound → Shared → Prop}
    (hin : ∀ i, k ∈ L.map (·.2) → Q (.there (if ad then none else some i)) s) (hout : k ∉ L.map (·.2) → Q (.free (way t.mask (thash P w k) K) false) s) :
    ∀ (f c : Nat) (stand : Option SetTable.Probe), stand.getD (t.probeStart (thash P w k)) = nth t.mask (st0 t.mask (thash P w k)) c → c ≤ K → K - c < f →
      (∀ (i : Nat) p, L[i]? = some p → p.2 = k → ∃ c', c ≤ c' ∧ c' < K ∧ t.place.toList[i]? = some (way t.mask (thash P w k) c')) →
      wpAny (model P w) A (setSearchFrom a (.ref x) (thash P w k) ad f stand) Q E s
  | 0, _, _, _, _, hf, _ => absurd hf (Nat.not_lt_zero _)
  | f + 1, c, stand, hst, hc, hf, hre => by
    obtain ⟨o, ho, hex, hd⟩ := R.ob
    generalize hh0 : thash P w k = hv at hst hK hKb hout hre ⊢
    rw [setSearchFrom_succ]
    refine wpAny_bind (wpAny_setState_of ho hd R.fits ?_)
    dsimp only
    refine wp_if_neg R.gw ?_
    try refine wpAny_bind (wpAny_pure ?_)
    have e1 : ∀ q, (nth t.mask (nth t.mask (st0 t.mask hv) c) q).j = way t.mask hv (c + q) := fun q => congrArg SetTable.Probe.j (st_sh t.mask hv c q)
    have spec := go_spec t R.tab.ris R.tab.dm (fun i => (es[i]?.map (·.1)).getD 0) hv (10 * SetTable.turns t.mask) (K - c) _ (nth_dm t.mask c (st0 t.mask hv) rfl) (by omega)
      (fun q hq => by rw [e1]; exact hKb (c + q) (by omega)) (by rw [e1, show c + (K - c) = K by omega]; exact hK)
    have hashAt : ∀ (i : Nat) p, L[i]? = some p → (es[i]?.map (·.1)).getD 0 = thash P w p.2 := fun i p hp => by rw [R.entry hp] <;> rfl
    have lenL : t.place.toList.length = L.length := by rw [Array.length_toList]; exact R.psz
    rcases spec with ⟨q, i, hq, hi, hh, hno, hpr⟩ | ⟨hno, hpr⟩
    · have hpr' : t.probe (fun i => (es[i]?.map (·.1)).getD 0) hv (stand.getD (t.probeStart hv)) = some (.candidate (way t.mask hv (c + q)) i (nth t.mask (st0 t.mask hv) (c + (q + 1)))) := by
        rw [hst, ← e1, ← st_sh]
        exact hpr
      rw [hpr']
      dsimp only
      rw [e1] at hi
      have hil : i < L.length := by
        have h1 := (List.getElem?_eq_some_iff.mp hi).1
        omega
      obtain ⟨p, hp⟩ : ∃ p, L[i]? = some p := ⟨_, List.getElem?_eq_getElem hil⟩
      have hmem : p ∈ L := List.mem_of_getElem? hp
      have rest : wpAny (model P w) A (searchRest a (.ref x) hv ad f es t (way t.mask hv (c + q)) i (nth t.mask (st0 t.mask hv) (c + (q + 1)))) Q E s := by
        unfold searchRest
        rw [R.entry hp]
        dsimp only
        refine wpAny_bind (wpAny_holding (wpAny_eqBool_tuple hu (R.tup p hmem) hx ?_))
        refine wpAny_bind (wpAny_setState_of ho hd R.fits ?_)
        dsimp only
        have hsl : t.slot (way t.mask hv (c + q)) = .live i := slot_live R.tab.ris hi
        by_cases hkk : p.2 = k
        · have km : k ∈ L.map (·.2) := List.mem_map.mpr ⟨p, hmem, hkk⟩
          cases ad with
          | true =>
            refine wp_if_pos (by simp [hkk]) ?_
            exact wpAny_pure (hin i km)
          | false =>
            refine wp_if_neg (by simp) ?_
            try refine wpAny_bind (wpAny_pure ?_)
            rw [sameMem]
            dsimp only
            simp only [if_true, hsl, R.entry hp]
            refine wpAny_bind (wpAny_isSame_ref_self (wpAny_bind (wpAny_pure ?_)))
            simp only [if_true]
            refine wp_if_pos (by simp [hkk]) ?_
            exact wpAny_pure (hin i km)
        · refine wp_if_neg (by simp [hkk]) ?_
          try refine wpAny_bind (wpAny_pure ?_)
          rw [sameMem]
          dsimp only
          simp only [if_true, hsl, R.entry hp]
          refine wpAny_bind (wpAny_isSame_ref_self (wpAny_bind (wpAny_pure ?_)))
          simp only [if_true]
          refine wp_if_neg (by simp [hkk]) ?_
          subst hh0
          refine look R hx hu ad hKf hK hKb hin hout f (c + (q + 1)) _ rfl (by omega) (by omega) fun i0 p0 h0 hk0 => ?_
          obtain ⟨c', a1, a2, a3⟩ := hre i0 p0 h0 hk0
          refine ⟨c', ?_, a2, a3⟩
          rcases Nat.lt_trichotomy c' (c + q) with z | z | z
          · exact absurd ((hashAt i0 p0 h0).trans (congrArg (thash P w) hk0)) (hno (c' - c) i0 (by omega) (by rw [e1, show c + (c' - c) = c' by omega]; exact a3))
          · exfalso
            rw [z] at a3
            have s0 := slot_live R.tab.ris a3
            rw [hsl] at s0
            injection s0 with s0
            rw [← s0, hp] at h0
            exact hkk ((congrArg Prod.snd (Option.some.inj h0)).trans hk0)
          · omega
      by_cases hl : t.led = true
      · refine wp_if_neg (by simp [hl]) ?_
        try refine wpAny_bind (wpAny_pure ?_)
        exact rest
      · refine wp_if_pos (by simp [hl]) ?_
        refine wpAny_bind (seen_tup hx (fun y hy => ?_) ?_)
        · obtain ⟨e, he, rfl⟩ := List.mem_map.mp hy
          have he1 : e ∈ es := by
            have : e ∈ es ∧ e.1 = hv := by simpa using he
            exact this.1
          have he2 : e ∈ rowsOf P w L := by rw [← R.rows]; simpa using he1
          obtain ⟨p2, hp2, rfl⟩ := List.mem_map.mp he2
          exact ⟨p2.2, p2.1, rfl, R.tup p2 hp2⟩
        · refine wp_if_neg (by decide) ?_
          try refine wpAny_bind (wpAny_pure ?_)
          exact rest
    · have hpr' : t.probe (fun i => (es[i]?.map (·.1)).getD 0) hv (stand.getD (t.probeStart hv)) = some (.empty (way t.mask hv K) none) := by
        have e2 : way t.mask hv K = (nth t.mask (nth t.mask (st0 t.mask hv) c) (K - c)).j := by rw [e1, show c + (K - c) = K by omega]
        rw [hst, e2]
        exact hpr
      rw [hpr']
      dsimp only
      refine wpAny_pure (hout fun hm => ?_)
      obtain ⟨p0, h0, hk0⟩ := List.mem_map.mp hm
      obtain ⟨i0, h00⟩ := List.mem_iff_getElem?.mp h0
      obtain ⟨c', a1, a2, a3⟩ := hre i0 p0 h00 hk0
      refine hno (c' - c) i0 (by omega) (by rw [e1, show c + (c' - c) = c' by omega]; exact a3) ?_
      rw [hashAt i0 p0 h00, hk0, hh0]
theorem look_at (R : Big P w s.heap a L es ep t) {x : Addr} {k : List Int} (hx : IsT P w s.heap k x) (hu : A.units < cLine) (ad : Bool) {Q : SetFound → Shared → Prop}
    (hin : ∀ i, k ∈ L.map (·.2) → Q (.there (if ad then none else some i)) s)
    (hout : ∀ K, k ∉ L.map (·.2) → way t.mask (thash P w k) K ∉ t.place.toList → (∀ c, c < K → way t.mask (thash P w k) c ∈ t.place.toList) → Q (.free (way t.mask (thash P w k) K) false) s) :
    wpAny (model P w) A (setSearch a (.ref x) (thash P w k) ad) Q E s := by
  have hroom := R.room
  obtain ⟨K, hKf, hK, hKb⟩ := R.tab.first (by rw [List.length_map]; omega) (thash P w k)
  have hbig : K < 100000 := by
    have := R.tab.good.le
    have : 10 * SetTable.turns t.mask ≤ 90000 := by unfold SetTable.turns; omega
    omega
  unfold setSearch
  refine look R hx hu ad hKf hK hKb hin (fun hn => hout K hn hK hKb) 100000 0 none rfl (Nat.zero_le _) (by omega) fun i p hp hk => ?_
  have hi : (L.map fun p => thash P w p.2)[i]? = some (thash P w k) := by rw [List.getElem?_map, hp, ← hk] <;> rfl
  have hil : i < t.place.toList.length := by
    have h1 : i < L.length := (List.getElem?_eq_some_iff.mp hp).1
    rw [Array.length_toList, R.psz]
    exact h1
  have hj := List.getElem?_eq_getElem hil
  obtain ⟨c, hc, e⟩ := R.tab.before hK hi hj
  exact ⟨c, Nat.zero_le _, hc, by rw [hj, e]⟩
/-- x in s -/
theorem find_at (R : Big P w s.heap a L es ep t) {x : Addr} {k : List Int} (hx : IsT P w s.heap k x) (hu : A.units < cLine) {Q : Option Nat → Shared → Prop} (h : ∀ r : Option Nat, r.isSome = decide (k ∈ L.map (·.2)) → Q r s) :
    wpAny (model P w) A (setFind a (.ref x) (thash P w k)) Q E s := by
  obtain ⟨o, ho, hex, hd⟩ := R.ob
  unfold setFind setFindIn
  refine wpAny_bind (wpAny_setState_of ho hd R.fits ?_)
  dsimp only
  refine wp_if_neg (by simp [byScan, Value.scannable]) ?_
  try refine wpAny_bind (wpAny_pure ?_)
  refine wpAny_bind (look_at R hx hu false (fun i hm => ?_) fun K hm _ _ => ?_)
  · exact wpAny_pure (h _ (by rw [decide_eq_true hm] <;> rfl))
  · exact wpAny_pure (h _ (by rw [decide_eq_false hm] <;> rfl))
end
end BT
end
section
set_option Elab.async false
set_option linter.all false
set_option maxRecDepth 100000
set_option maxHeartbeats 3200000
/-! PrT3: sets of up to 300 tuples of ints: made of a tuple of them, asked for one. -/
namespace BT
open PySem PySem.Spec PyProof.Rows L2
section
variable {P : Program} {w : World} {A : Around} {E : Value → Shared → Prop} {s : Shared} {a : Addr} {L : List (Addr × List Int)} {es : Array (Int × Value)} {ep : Nat} {t : SetTable}
/-- laid anew, larger -/
theorem grow {o : Obj} (ho : s.heap.get? a = some o) (hex : o.ExactSet) (hd : o.data = .set es ep t) (hrows : es.toList = rowsOf P w L) (hsz : t.place.size = es.size) (hdm : t.dummies = #[]) (hfl : es.size ≤ t.mask)
    (nd : (L.map (·.2)).Nodup) (tup : ∀ p ∈ L, IsT P w s.heap p.2 p.1) (pl : t.plain = true) (ld : w.params.followText "set-order" = true ∨ t.led = true) (few : L.length ≤ 300) {wanted M : Nat}
    (hw : SetTable.sizeAbove wanted = M + 1) (hM : Good M) (hn : L.length * 5 < M * 3) {Q : Unit → Shared → Prop}
    (hQ : ∀ h' L' es' ep' t', Heap.SameBut a s.heap h' → Big P w h' a L' es' ep' t' → L'.Perm L → Q () { s with heap := h' }) : wpAny (model P w) A (setRelay a wanted) Q E s := by
  have hsl := rows_size hrows
  have hMl := hM.le
  obtain ⟨t', order, e, hp, T, em, el, epl⟩ := relaid_at t (hs := es.map (·.1)) (wanted := wanted) (M := M) (by omega) hM (by rw [Array.size_map, hsl]; omega)
  rw [Array.size_map, hsl] at hp
  obtain ⟨L2, r1, r2, r3⟩ := order_rows L es order hrows hp
  rw [← r3] at T
  have hs2 : (order.filterMap (es[·]?)).size = es.size := by rw [rows_size r1, r2.length_eq, hsl]
  rw [setRelay_eq]
  refine wpAny_bind (wpAny_setState_of ho hd (fits_of hsz hdm hfl) ?_)
  dsimp only
  refine wp_if_neg (by rw [sizeLine_eq, hw]; omega) ?_
  try refine wpAny_bind (wpAny_pure ?_)
  rw [e]
  dsimp only
  refine wpAny_bind ?_
  refine wp_if_neg (by rw [hs2]; simp) ?_
  try refine wpAny_bind (wpAny_pure ?_)
  refine wpAny_pure ?_
  dsimp only
  refine wpAny_storeSet_of ho hd ?_ (by rw [hs2, hsl, sizeLine_eq]; omega)
  have sb : Heap.SameBut a s.heap (s.heap.update a (Obj.putSet (order.filterMap (es[·]?)) t')) := Heap.SameBut.update ..
  refine hQ _ L2 (order.filterMap (es[·]?)) (ep + 1) t' sb ⟨⟨_, store_at ho hd, ⟨hex.1, hex.2.1, hex.2.2⟩, rfl⟩, r1, T, ?_, fun p hpm => isT_same (tup p (r2.mem_iff.mp hpm)) ho hd sb, epl.trans pl, by rw [el]; exact ld, ?_, by rw [r2.length_eq]; exact few⟩ r2
  · exact (r2.map (·.2)).nodup_iff.mpr nd
  · rw [r2.length_eq, em]
    exact hn
/-- adding -/
theorem add (R : Big P w s.heap a L es ep t) {x : Addr} {k : List Int} (hx : IsT P w s.heap k x) (hu : A.units < cLine) (hfew : L.length + 1 ≤ 300) {Q : Bool → Shared → Prop}
    (hQ : ∀ b h' L' es' ep' t', Heap.SameBut a s.heap h' → Big P w h' a L' es' ep' t' → (k ∈ L.map (·.2) → L' = L) → (k ∉ L.map (·.2) → L'.Perm ((x, k) :: L)) → Q b { s with heap := h' }) :
    wpAny (model P w) A (setAddHashed a (.ref x) (thash P w k)) Q E s := by
  obtain ⟨o, ho, hex, hd⟩ := R.ob
  have hsl := R.size
  have hroom := R.room
  unfold setAddHashed
  refine wpAny_holding ?_
  rw [show (100000 : Nat) = 99999 + 1 from rfl, setAddHashedIn_succ]
  refine wpAny_bind (wpAny_setState_of ho hd R.fits ?_)
  dsimp only
  refine wp_if_neg (by simp [byScan, Value.scannable]) ?_
  try refine wpAny_bind (wpAny_pure ?_)
  refine wpAny_bind (look_at R hx hu true (fun i hm => ?_) fun K hm hK hb => ?_)
  · exact wpAny_pure (hQ false s.heap L es ep t (Heap.SameBut.refl a s.heap) R (fun _ => rfl) fun z => absurd hm z)
  · dsimp only
    refine wpAny_bind (wpAny_setState_of ho hd R.fits ?_)
    dsimp only
    obtain ⟨q2, q3, q9⟩ := R.tab.put hK hb
    have q1 : (t.put (way t.mask (thash P w k) K)).2 = SetTable.below t.place (way t.mask (thash P w k) K) := rfl
    have q4 : (t.put (way t.mask (thash P w k) K)).1.mask = t.mask := rfl
    have q5 : (t.put (way t.mask (thash P w k) K)).1.led = t.led := rfl
    have hp1 : (t.put (way t.mask (thash P w k) K)).1.plain = true := R.plain
    generalize hpt : t.put (way t.mask (thash P w k) K) = pt at q1 q3 q4 q5 q9 hp1 ⊢
    obtain ⟨t1, p⟩ := pt
    dsimp only at q1 q3 q4 q5 q9 hp1 ⊢
    subst q1
    first
      | (refine wpAny_bind ?_; refine wp_if_pos hp1 ?_; refine hashBy_tup hx ?_)
      | refine wp_if_pos hp1 (wpAny_bind (hashBy_tup hx ?_))
    simp only [if_true]
    have hin : (SetTable.insertAt es (SetTable.below t.place (way t.mask (thash P w k) K)) (thash P w k, Value.ref x)).toList = rowsOf P w (L.take (SetTable.below t.place (way t.mask (thash P w k) K)) ++ (x, k) :: L.drop (SetTable.below t.place (way t.mask (thash P w k) K))) := by
      rw [SetTable.toList_insertAt, rows_put, R.rows]
    generalize SetTable.below t.place (way t.mask (thash P w k) K) = p at q2 q3 hin ⊢
    have pm := put_perm L p (x, k)
    rw [show (L.map fun p => thash P w p.2).take p ++ thash P w k :: (L.map fun p => thash P w p.2).drop p = (L.take p ++ (x, k) :: L.drop p).map (fun p => thash P w p.2) by rw [List.map_append, List.map_cons, List.map_take, List.map_drop]] at q3
    generalize SetTable.insertAt es p (thash P w k, Value.ref x) = es1 at hin ⊢
    generalize L.take p ++ (x, k) :: L.drop p = L1 at pm q3 hin
    have hlen : L1.length = L.length + 1 := pm.length_eq
    have nd1 : (L1.map (·.2)).Nodup := (pm.map (·.2)).nodup_iff.mpr (List.nodup_cons.mpr ⟨hm, R.nd⟩)
    have hes : es1.size = L.length + 1 := (rows_size hin).trans hlen
    refine wpAny_bind (wpAny_storeSet_of ho hd ?_ (by rw [hes, sizeLine_eq]; omega))
    have sb : Heap.SameBut a s.heap (s.heap.update a (Obj.putSet es1 t1)) := Heap.SameBut.update ..
    have ho1 := store_at (es' := es1) (t' := t1) ho hd
    generalize s.heap.update a (Obj.putSet es1 t1) = h1 at sb ho1 ⊢
    have tup1 : ∀ p ∈ L1, IsT P w h1 p.2 p.1 := fun p hp => by
      rcases List.mem_cons.mp (pm.mem_iff.mp hp) with rfl | hp
      · exact isT_same hx ho hd sb
      · exact isT_same (R.tup p hp) ho hd sb
    have ld1 : w.params.followText "set-order" = true ∨ t1.led = true := by rw [q5]; exact R.led
    have hgood := R.tab.good
    have full_iff : t1.tooFull = true ↔ (L.length + 1) * 5 ≥ t.mask * 3 := by
      unfold SetTable.tooFull
      rw [decide_eq_true_eq, q9, List.length_map, q4]
    by_cases hf : t1.tooFull = true
    · first
        | (refine wpAny_bind ?_; refine wp_if_pos (by simp [hf]) ?_)
        | (refine wp_if_pos (by simp [hf]) ?_; refine wpAny_bind ?_)
      have hfull := full_iff.mp hf
      rw [hsl]
      have hsz1 : t1.place.size = es1.size := by
        have h := q3.sz
        rw [List.length_map, hlen] at h
        rw [h, hes]
      have cases3 : (t.mask = 7 ∧ L.length = 4) ∨ (t.mask = 31 ∧ L.length = 18) ∨ (t.mask = 127 ∧ L.length = 76) := by
        rcases hgood with e | e | e | e <;> rw [e] at hfull hroom
        · exact .inl ⟨e, by omega⟩
        · exact .inr (.inl ⟨e, by omega⟩)
        · exact .inr (.inr ⟨e, by omega⟩)
        · omega
      have go : ∀ M, SetTable.sizeAbove (SetTable.grown (L.length + 1)) = M + 1 → Good M → (L.length + 1) * 5 < M * 3 → L.length + 1 ≤ t.mask →
          wpAny (model P w) A (setRelay a (SetTable.grown (L.length + 1))) (fun _ s' => wpAny (model P w) A (pure true) Q E s') E { s with heap := h1 } := fun M g1 g2 g3 g4 => by
        refine grow (s := { s with heap := h1 }) ho1 ⟨hex.1, hex.2.1, hex.2.2⟩ rfl hin hsz1 q3.dm (by rw [hes, q4]; exact g4) nd1 tup1 hp1 ld1 (by rw [hlen]; exact hfew) g1 g2 (by rw [hlen]; exact g3) ?_
        intro h2 L2 es2 ep2 t2 sb2 R2 pm2
        exact wpAny_pure (hQ true h2 L2 es2 ep2 t2 (sb.trans sb2) R2 (fun z => absurd z hm) fun _ => pm2.trans pm)
      rcases cases3 with ⟨e1, e2⟩ | ⟨e1, e2⟩ | ⟨e1, e2⟩
      · exact go 31 (by rw [e2, size_5]) (.inr (.inl rfl)) (by omega) (by omega)
      · exact go 127 (by rw [e2, size_19]) (.inr (.inr (.inl rfl))) (by omega) (by omega)
      · exact go 511 (by rw [e2, size_77]) (.inr (.inr (.inr rfl))) (by omega) (by omega)
    · first
        | refine wp_if_neg (by simp [hf]) ?_
        | (refine wpAny_bind ?_; refine wp_if_neg (by simp [hf]) ?_; refine wpAny_pure ?_)
      refine wpAny_pure (hQ true h1 L1 es1 (ep + 1) t1 sb ⟨⟨_, ho1, ⟨hex.1, hex.2.1, hex.2.2⟩, rfl⟩, hin, q3, nd1, tup1, hp1, ld1, ?_, by rw [hlen]; exact hfew⟩ (fun z => absurd z hm) fun _ => pm)
      rw [hlen, q4]
      rw [full_iff] at hf
      omega
theorem Big.keep {h h' : Heap} (R : Big P w h a L es ep t) (ha : ∀ o, h.get? a = some o → h'.get? a = some o) (ht : ∀ p ∈ L, IsT P w h' p.2 p.1) : Big P w h' a L es ep t := by
  obtain ⟨o, ho, r⟩ := R.ob
  exact ⟨⟨o, ha o ho, r⟩, R.rows, R.tab, R.nd, ht, R.plain, R.led, R.room, R.few⟩
theorem big_new {h : Heap} (ho : h.get? a = some { cls := .type "set", dict := none, data := .set #[] 0 (.fresh 0 0 (!w.params.followText "set-order")) }) : Big P w h a [] #[] 0 (.fresh 0 0 (!w.params.followText "set-order")) where
  ob := ⟨_, ho, ⟨rfl, rfl, rfl⟩, rfl⟩
  rows := rfl
  tab := ⟨List.Pairwise.nil, rfl, rfl, .inl rfl, fun x hx => (by cases hx), fun i h j hi => (by simp at hi)⟩
  nd := List.nodup_nil
  tup := fun p hp => (by cases hp)
  plain := rfl
  led := by
    show _ ∨ (!w.params.followText "set-order") = true
    cases w.params.followText "set-order"
    · exact .inr rfl
    · exact .inl rfl
  room := by show 0 * 5 < 7 * 3; decide
  few := by show 0 ≤ 300; decide
/-- the loop of set(xs) -/
theorem fill_tups {R : Result → Shared → Prop} {I : Addr} {fp wr : List Addr} {G : Array GenState → Array GenState → Prop} {n : Nat} {Pv : Nat → Value → Prop} {St : Nat → Shared → Prop}
    (W : WalksS P w A.in1 I fp wr G n Pv St) (S : Addr) (hSf : S ∉ fp) (ks : List (Addr × List Int)) (hn : ks.length = n) (hfew : ks.length ≤ 299) (hv : ∀ i v, Pv i v → ∃ p, ks[i]? = some p ∧ v = .ref p.1)
    (h0 : Heap) (hk : ∀ p ∈ ks, IsT P w h0 p.2 p.1) (hS0 : h0.get? S = none) (hw0 : ∀ b ∈ wr, h0.get? b = none) (hu : A.in1.units < cLine) (left : Nat) :
    ∀ (i : Nat) (s : Shared), n - i = left → i ≤ n → St i s → (∀ b o, h0.get? b = some o → s.heap.get? b = some o) → (∃ L es ep t, Big P w s.heap S L es ep t ∧ Got ks i L) →
      (∀ s' L es ep t, Moved (S :: wr) G s s' → Big P w s'.heap S L es ep t → Got ks n L → (∀ b o, h0.get? b = some o → s'.heap.get? b = some o) → R (.ok (.ret .none)) s') →
      codeAny (model P w) A (.builtin "set.update.loop" ⟨[.ref S, .ref I], []⟩) R s := by
  have away : S ∉ wr := fun h => hSf (W.sub _ h)
  have more : ∀ b ∈ wr, b ∈ S :: wr := fun b hb => List.mem_cons_of_mem _ hb
  have stays : ∀ {s s' : Shared}, Moved wr G s s' → (∀ b o, h0.get? b = some o → s.heap.get? b = some o) → ∀ b o, h0.get? b = some o → s'.heap.get? b = some o := fun hm hkp b o e =>
    hm.heap b o (fun hb => by rw [hw0 b hb] at e; cases e) (hkp b o e)
  have keepB : ∀ {s s' : Shared} {L es ep t i}, Moved wr G s s' → (∀ b o, h0.get? b = some o → s'.heap.get? b = some o) → Got ks i L → Big P w s.heap S L es ep t → Big P w s'.heap S L es ep t := fun hm hkp g hS =>
    hS.keep (fun o e => hm.heap S o away e) fun p hp => isT_keep (hk p (List.mem_of_mem_take (g.sub p hp))) hkp
  induction left with
  | zero =>
    intro i s hl hi hst hkp ⟨L, es, ep, t, hS, g⟩ hR
    obtain rfl : i = n := by omega
    refine codeAny_builtin F.entry_set_update_loop ?_
    rw [Around.under_plainId F.plain_set_update_loop _]
    refine wpAny_bind (m := pyNext (.ref I)) (W.done s _ _ hst fun s' hm => ?_)
    exact wpAny_pure (hR s' L es ep t (hm.mono more) (keepB hm (stays hm hkp) g hS) g (stays hm hkp))
  | succ left ih =>
    intro i s hl hi hst hkp ⟨L, es, ep, t, hS, g⟩ hR
    have lt : i < n := by omega
    refine codeAny_builtin F.entry_set_update_loop ?_
    rw [Around.under_plainId F.plain_set_update_loop _]
    refine wpAny_bind (m := pyNext (.ref I)) (W.item i s _ _ lt hst fun v s' hP hst' hm => ?_)
    obtain ⟨p, hp, rfl⟩ := hv i v hP
    have hkp' := stays hm hkp
    have hS' := keepB hm hkp' g hS
    have hx : IsT P w s'.heap p.2 p.1 := isT_keep (hk p (List.mem_of_getElem? hp)) hkp'
    refine wpAny_bind (m := holding [Value.ref p.1] (setAdd S (.ref p.1))) (wpAny_holding ?_)
    unfold setAdd
    refine wpAny_holding (wpAny_bind (wpAny_pyHash_tuple hu hx ?_))
    refine add (s := { s' with toks := s'.toks + (p.2.length + 1) }) hS' hx hu (by have := g.len; omega) fun b h' L' es' ep' t' hsb hS2 c1 c2 => ?_
    have g' : Got ks (i + 1) L' := by
      rcases Classical.em (p.2 ∈ L.map (·.2)) with c | c
      · rw [c1 c]; exact g.same hp c
      · exact g.more hp (c2 c)
    have hkp2 : ∀ b o, h0.get? b = some o → h'.get? b = some o := fun b o e => (hsb.2 b (fun z => by rw [z, hS0] at e; cases e)).trans (hkp' b o e)
    refine wpAny_pure ⟨plainId_quiet F.plain_set_update_loop _, ih (i + 1) _ (by omega) lt (W.frame _ s' _ _ hst' (Nat.le_add_right _ _) fun b hb o e => ?_) hkp2 ⟨L', es', ep', t', hS2, g'⟩ fun s2 L2 es2 ep2 t2 hm2 hS3 g3 hkp3 => ?_⟩
    · exact (hsb.2 b (fun h : b = S => hSf (h ▸ hb))).trans e
    · refine hR s2 L2 es2 ep2 t2 (Moved.trans W.gtrans ((hm.mono more).then_heap (Nat.le_add_right _ _) fun b o hb e => ?_) hm2) hS3 g3 hkp3
      exact (hsb.2 b (fun h : b = S => hb (h ▸ List.mem_cons_self))).trans e
end
end BT
end
section
set_option Elab.async false
set_option linter.all false
set_option maxRecDepth 100000
set_option maxHeartbeats 3200000
/-! PrT4: set(t), t a tuple of tuples of ints; k in that set. -/
namespace BT
open PySem PySem.Spec PyProof.Rows L2
section
variable {P : Program} {w : World} {A : Around} {E : Value → Shared → Prop} {s : Shared}
theorem call_setT {l : Addr} {items : Array Value} (ks : List (Addr × List Int)) {Q : Value → Shared → Prop} (hh : A.handled = none) (hl : s.heap.IsTuple l items) (hit : items.toList = ks.map fun p => Value.ref p.1)
    (hk : ∀ p ∈ ks, IsT P w s.heap p.2 p.1) (hfew : ks.length ≤ 299) (hu : A.units + 3 < cLine)
    (h : ∀ (h' : Heap) (tk : Nat) L es ep t, Big P w h' s.heap.objs.size L es ep t → Got ks ks.length L → (∀ b o, s.heap.get? b = some o → h'.get? b = some o) → Q (.ref s.heap.objs.size) { s with heap := h', toks := tk }) :
    wpAny (model P w) A (call (.type "set") [.ref l]) Q E s := by
  have hisz : ks.length = items.size := by
    have q := congrArg List.length hit
    rw [Array.length_toList, List.length_map] at q
    exact q.symm
  have made := F.called_set.made
  have called := F.called_set.sub
  obtain ⟨cc, tl, mro⟩ := F.called_set.mro
  have g1 := F.called_set.notType
  have g2 := F.called_set.canCreate
  have g3 := F.typeCall_set_1 (.ref l)
  let new : Obj := { cls := .type "set", dict := none, data := .set #[] 0 (.fresh 0 0 (!w.params.followText "set-order")) }
  refine wpAny_call (codeAny_of_tree ?_)
  show wpAny _ _ (callAny (.type "set") _) _ _ _
  refine wpAny_pure ⟨Code.quiet_builtin _ (by decide +kernel), codeAny_builtin F.entry_type_call ?_⟩
  rw [Around.under_plain (weight_type_call_type "set" [.ref l] []) rfl]
  repeat (any_goals (first | assumption | wp_step))
  refine codeAny_mono (code_set_led1 (.ref l) (E := E) (Q₁ := fun z s1 => z = .ref s.heap.objs.size ∧ s1 = { s with heap := s.heap.push new }) ⟨rfl, rfl⟩) fun r s1 hr => ?_
  rcases r with e | fl
  · exact hr
  cases fl with
  | ret z =>
    obtain ⟨rfl, rfl⟩ := hr
    have at0 : (s.heap.push new).get? s.heap.objs.size = some new := Heap.get?_push_size _ rfl
    have ty0 : Shared.TypeIs { s with heap := s.heap.push new } (.ref s.heap.objs.size) "set" := ⟨_, at0, rfl⟩
    have look0 := F.called_set.init.lookup
    have bind0 := F.called_set.init.bind (.ref s.heap.objs.size)
    repeat (any_goals (first | assumption | wp_step))
    refine codeAny_mono (codeAny_call_builtin (R := wants (fun z s2 => z = .none ∧ ∃ h' tk L es ep t, s2 = { s with heap := h', toks := tk } ∧ Big P w h' s.heap.objs.size L es ep t ∧ Got ks ks.length L ∧
        (∀ b o, s.heap.get? b = some o → h'.get? b = some o)) E) F.called_set.init.plain F.entry_set_init (check_set_init_1 ty0 ?_)) fun r2 s2 hr2 => ?_
    · obtain ⟨ol, gl, cl, nl, dl⟩ := hl
      obtain ⟨lc, ld, lx, ls⟩ := ol
      dsimp only at cl dl
      subst cl dl
      have gl1 : (s.heap.push new).get? l = some { cls := .type "tuple", dict := ld, data := .seq items nl, slots := ls } := Heap.get?_push_of_some _ gl
      have isl : (s.heap.push new).IsTuple l items := ⟨_, gl1, rfl, nl, rfl⟩
      have no1 := F.sub_tuple_set
      have no2 := F.sub_tuple_frozenset
      have no3 : (Value.type "tuple" == Value.type "dict") = false := by decide
      unfold Builtin.«set.__init__» noKeywords Builtin.Frozenset.updateFrom
      generalize nextIs : pyIter = PI
      wp_walk
      subst nextIs
      refine wpAny_pyIter_tuple isl (wpAny_bind (wpAny_runValue ?_))
      have ltl : l < s.heap.objs.size := Heap.lt_size gl
      have hh3 : A.in1.in1.in1.handled = none := by simp [hh]
      have ne1 : l ≠ (s.heap.push new).objs.size := by
        rw [Heap.size_push]
        exact Nat.ne_of_lt (Nat.lt_succ_of_lt ltl)
      have ne2 : s.heap.objs.size ∉ [(s.heap.push new).objs.size, l] := by
        rw [Heap.size_push]
        simp only [List.mem_cons, List.not_mem_nil, or_false, not_or]
        exact ⟨Nat.ne_of_lt (Nat.lt_succ_self _), Nat.ne_of_gt ltl⟩
      have hv : ∀ (i : Nat) (v : Value), items[i]? = some v → ∃ p, ks[i]? = some p ∧ v = .ref p.1 := fun i v hv => by
        have q : items.toList[i]? = some v := by rw [Array.getElem?_toList]; exact hv
        rw [hit, List.getElem?_map] at q
        obtain ⟨p, hp, rfl⟩ := Option.map_eq_some_iff.mp q
        exact ⟨p, hp, rfl⟩
      have none_of : ∀ b, s.heap.objs.size ≤ b → s.heap.get? b = none := fun b hb => by
        cases q : s.heap.get? b with
        | none => rfl
        | some o => exact absurd (Nat.lt_of_lt_of_le (Heap.lt_size q) hb) (Nat.lt_irrefl _)
      refine fill_tups ((Walks.tuple hh3 _ l ne1 items).toS) s.heap.objs.size ne2 ks hisz hfew hv s.heap hk (none_of _ (Nat.le_refl _)) (fun b hb => none_of b (by
            rw [List.mem_singleton.mp hb, Heap.size_push]
            exact Nat.le_succ _)) hu (items.size - 0) 0 _ (by omega) (Nat.zero_le _) ⟨⟨_, Heap.get?_push_size _ rfl, rfl, rfl⟩, (isl.push _)⟩ (fun b o e => Heap.get?_push_of_some _ (Heap.get?_push_of_some _ e)) ?h0 ?hR
      case h0 => exact ⟨[], #[], 0, _, big_new (Heap.get?_push_of_some _ at0), Got.zero ks⟩
      case hR =>
        rintro ⟨h', g', d', tk', os'⟩ L es ep t hm hS g kept
        obtain rfl : g' = s.gens := hm.gens
        obtain rfl : d' = s.drawn := hm.drawn
        obtain rfl : os' = s.os := hm.os
        rw [← hisz] at g
        show wpAny _ _ (pure ()) _ _ _
        refine wpAny_pure ?_
        show wpAny _ _ (ret Value.none) _ _ _
        exact wpAny_pure ⟨rfl, h', tk', L, es, ep, t, rfl, hS, g, kept⟩
    · rcases r2 with e | fl2
      · exact hr2
      cases fl2 with
      | ret z =>
        obtain ⟨rfl, h', tk, L, es, ep, t, rfl, hS, g, kept⟩ := hr2
        repeat (any_goals (first | assumption | wp_step))
        exact h _ _ _ _ _ _ hS g kept
      | _ => exact hr2.elim
  | _ => exact hr.elim
/-- k in s -/
theorem inBig {a x : Addr} {k : List Int} {L : List (Addr × List Int)} {es : Array (Int × Value)} {ep : Nat} {t : SetTable} (R : Big P w s.heap a L es ep t) (hx : IsT P w s.heap k x) (hu : A.units + 3 < cLine) {Q : Value → Shared → Prop}
    (h : ∀ tk, Q (.bool (decide (k ∈ L.map (·.2)))) { s with toks := tk }) : wpAny (model P w) A (compareOp .In (.ref x) (.ref a)) Q E s := by
  obtain ⟨o, ho, hex, hd⟩ := R.ob
  have ty : s.TypeIs (.ref a) "set" := ⟨o, ho, hex.1⟩
  show wpAny _ _ (do return .bool (← contains (.ref a) (.ref x))) Q E s
  refine wpAny_bind ?_
  unfold contains
  try with_reducible refine wpAny_holding ?_
  refine wpAny_bind (wpAny_specialOf ty F.slot_set_contains.lookup ?_)
  show wpAny _ _ (if (some (Value.builtin "set.__contains__") == some Value.none) = true then _ else _) _ E s
  rw [if_neg (by rw [beq_builtin_none]; exact Bool.false_ne_true)]
  refine wpAny_bind (wpAny_callSpecialUnlessNone?_slot (name := Str.ofString "__contains__") ty F.slot_set_contains (wpAny_call_entry F.slot_set_contains ty entry_set_contains ?_ (F.args_set_contains_2 _ _)))
  unfold Builtin.«frozenset.__contains__» Builtin.Frozenset.oneOther
  simp only [List.isEmpty_nil, bind_assoc]
  unfold Builtin.Frozenset.addrOf Builtin.Frozenset.withSetAsKey setContains
  refine wpAny_bind (wpAny_pure ?_)
  try dsimp only
  refine wpAny_bind (wpAny_pure ?_)
  try dsimp only
  refine wpAny_bind (wpAny_tryCatch ?_)
  refine wpAny_holding ?_
  refine wpAny_bind (wpAny_pyHash_tuple (show A.in1.units < cLine from by show A.units + 1 < cLine; omega) hx ?_)
  refine wpAny_bind (find_at (s := { s with toks := s.toks + (k.length + 1) }) R hx (show A.in1.units < cLine from by show A.units + 1 < cLine; omega) fun r hr => ?_)
  refine wpAny_pure ?_
  show wpAny _ _ (ret (Value.bool r.isSome)) _ _ _
  rw [hr]
  exact wpAny_pure ⟨_, rfl, wpAny_truthy_bool (wpAny_pure (h _))⟩
end
end BT
end
section
set_option Elab.async false
set_option linter.all false
set_option maxRecDepth 100000
set_option maxHeartbeats 3200000
/-! PrT5: the rules for sets of places. -/
namespace PR
open PySem PySem.Spec PyProof.Rows L2 Evl
/-- the set at a, its tuples left to the heap -/
def Big0 (P : Program) (w : World) (h : Heap) (a : Addr) (L : List (Addr × List Int)) : Prop := ∃ es ep t, (∃ o, h.get? a = some o ∧ o.ExactSet ∧ o.data = .set es ep t) ∧ es.toList = rowsOf P w L ∧ BT.Tab t (L.map fun p => thash P w p.2) ∧ (L.map (·.2)).Nodup ∧ t.plain = true ∧
  (w.params.followText "set-order" = true ∨ t.led = true) ∧ L.length * 5 < t.mask * 3 ∧ L.length ≤ 300
def BigO (P : Program) (w : World) (a : Addr) (L : List (Addr × List Int)) : HO := .ext fun h => Big0 P w h a L
theorem big0_of {P : Program} {w : World} {h : Heap} {a : Addr} {L : List (Addr × List Int)} {es : Array (Int × Value)} {ep : Nat} {t : SetTable} (R : BT.Big P w h a L es ep t) : Big0 P w h a L := ⟨es, ep, t, R.ob, R.rows, R.tab, R.nd, R.plain, R.led, R.room, R.few⟩
theorem Big0.full {P : Program} {w : World} {h : Heap} {a : Addr} {L : List (Addr × List Int)} (R : Big0 P w h a L) (ht : ∀ p ∈ L, IsT P w h p.2 p.1) : ∃ es ep t, BT.Big P w h a L es ep t := by
  obtain ⟨es, ep, t, h1, h2, h3, h4, h5, h6, h7, h8⟩ := R
  exact ⟨es, ep, t, h1, h2, h3, h4, ht, h5, h6, h7, h8⟩
theorem bigO_new {P : Program} {w : World} {H : Hp} {h : Heap} {a : Addr} {L : List (Addr × List Int)} (R : Big0 P w h a L) : ObjOk P w H h a (BigO P w a L) := by
  have ⟨es, ep, t, ⟨o, ho, r⟩, q⟩ := R
  refine ⟨R, ⟨o, ho⟩, fun h1 h2 p k => ?_⟩
  obtain ⟨es', ep', t', ⟨o', ho', r'⟩, q'⟩ := p
  exact ⟨es', ep', t', ⟨o', k o' ho', r'⟩, q'⟩
section
variable {X : Cx}
def rSetB (K : PySem.W.Frag) (P : Program) (w : World) : List V → Hp → VK → Prop := fun xs H Q => ∃ (l : Addr) (ks : List (Addr × List Int)), xs = [V.ref l] ∧ SqT K H l (ks.map fun p => V.ref p.1) ∧ (∀ p ∈ ks, SqT K H p.1 (p.2.map V.int)) ∧ ks.length ≤ 299 ∧
  ∀ a L, H a = none → (∀ p ∈ L, p ∈ ks) → (∀ p ∈ ks, p.2 ∈ L.map (·.2)) → Q (.ref a) (upd H a (BigO P w a L))
theorem cr_setB (K : PySem.W.Frag) (P : Program) (w : World) (hc : X.calm = true) (hu : X.A.units + 64 < cLine) (hk : X.K = K := by rfl) (hp : X.prog = P := by rfl) (hw : X.w = w := by rfl) : CallR X (.type "set") (rSetB K P w) := by
  subst hk hp hw
  intro pins s σ H xs us Q I r h
  obtain ⟨l, ks, rfl, hl, hk, hf, q⟩ := h
  rw [Vals.ref1 r]
  obtain ⟨its, rv, pl, hz⟩ := I.tuple hl
  have hn : H s.heap.objs.size = none := I.hok.fresh (Nat.le_refl _)
  refine BT.call_setT (P := X.prog) (w := X.w) ks (I.ok.hd hc) (show s.heap.IsTuple l its.toArray from pl) (by simpa using refs_of_vals rv) (fun p hp => I.isT (hk p hp)) hf (by omega) fun h' tk L es ep t R g k => ?_
  refine ⟨.ref s.heap.objs.size, upd H s.heap.objs.size (BigO X.prog X.w s.heap.objs.size L), I.laid (t' := tk) k (Nat.le_refl _) (bigO_new (big0_of R)), rfl, q _ L hn (fun p hp => ?_) fun p hp => ?_⟩
  · exact List.mem_of_mem_take (g.sub p hp)
  · exact g.all p (by rw [List.take_length]; exact hp)
def rInB (K : PySem.W.Frag) (P : Program) (w : World) : R2 := fun x y H Q => ∃ (b d : Addr) (k : List Int) (L : List (Addr × List Int)), x = .ref b ∧ y = .ref d ∧ SqT K H b (k.map V.int) ∧ H d = some (BigO P w d L) ∧ (∀ p ∈ L, SqT K H p.1 (p.2.map V.int)) ∧ Q (.bl (decide (k ∈ L.map (·.2)))) H
theorem op_inB (K : PySem.W.Frag) (P : Program) (w : World) (hu : X.A.units + 64 < cLine) (hk : X.K = K := by rfl) (hp : X.prog = P := by rfl) (hw : X.w = w := by rfl) : OpR X (compareOp .In) (rInB K P w) := by
  subst hk hp hw
  intro pins s σ H x y v u Q I rx ry h
  obtain ⟨b, d, k, L, rfl, rfl, hb, hd, hL, q⟩ := h
  cases rx
  cases ry
  have R0 : Big0 X.prog X.w s.heap d L := (I.hok d _ hd).1
  obtain ⟨es, ep, t, R⟩ := R0.full fun p hp => I.isT (hL p hp)
  exact BT.inBig R (I.isT hb) (by omega) fun tk => ⟨.bl _, H, I.tok _, rfl, q⟩
end
/-- at d a set of these places -/
def IsBig (K : PySem.W.Frag) (P : Program) (w : World) (H : Hp) (d : Addr) (ps : List (List Int)) : Prop := ∃ L, H d = some (BigO P w d L) ∧ (∀ p ∈ L, SqT K H p.1 (p.2.map V.int)) ∧ ∀ k, k ∈ L.map (·.2) ↔ k ∈ ps
section
variable {K : PySem.W.Frag} {P : Program} {w : World} {σ : L2.St} {H H' : Hp} {ta tb te : TE} {tz : TS} {D : Ends} {d : Addr} {ps : List (List Int)} {k : List Int}
theorem IsBig.ex (h : IsBig K P w H d ps) (e : Ex H H') : IsBig K P w H' d ps := by
  obtain ⟨L, h1, h2, h3⟩ := h
  exact ⟨L, e _ _ h1, fun p hp => ex_t e (h2 p hp), h3⟩
theorem rp_places : ∀ {vs : List V} {ps : List (List Int)}, Rps K H vs (ps.map fun p => PyData.tuple (p.map PyData.int)) → ∃ ks : List (Addr × List Int), vs = (ks.map fun p => V.ref p.1) ∧ ks.map (·.2) = ps ∧ ∀ p ∈ ks, SqT K H p.1 (p.2.map V.int)
  | _, [], h => by
    cases h
    exact ⟨[], rfl, rfl, fun p hp => nomatch hp⟩
  | _, p :: ps, h => by
    rw [List.map_cons] at h
    cases h with
    | cons r t =>
      obtain ⟨a, rfl, hs⟩ := rp_tints r
      obtain ⟨ks, rfl, rfl, h3⟩ := rp_places t
      refine ⟨(a, p) :: ks, rfl, rfl, fun q hq => ?_⟩
      rcases List.mem_cons.mp hq with rfl | hq
      · exact hs
      · exact h3 q hq
theorem q_setB {i : Nat} (h : Ed K ta σ H (.tuple (ps.map fun p => PyData.tuple (p.map PyData.int)))) (hz : ps.length ≤ 299) (kk : ∀ d H1, H d = none → Ex H H1 → IsBig K P w H1 d ps → tz D (σ.set i (some (.ref d))) H1) : tSeq (tAsg (tCB (rSetB K P w) (tCons ta tNil)) (gName i)) tz D σ H :=
  h H (Ex.refl _) _ fun v H1 e1 r => by
    obtain ⟨l, xs, rfl, hs, rs⟩ := rp_tup r
    obtain ⟨ks, rfl, rfl, h3⟩ := rp_places rs
    rw [List.length_map] at hz
    refine ⟨l, ks, rfl, hs, h3, hz, fun d L fd h1 h2 => kk d _ (fresh_back e1 fd) (e1.trans (Ex.new fd)) ⟨L, upd_same, fun p hp => ex_t (Ex.new fd) (h3 p (h1 p hp)), fun k => ⟨fun hk => ?_, fun hk => ?_⟩⟩⟩
    · obtain ⟨p, hp, rfl⟩ := List.mem_map.mp hk
      exact List.mem_map.mpr ⟨p, h1 p hp, rfl⟩
    · obtain ⟨p, hp, rfl⟩ := List.mem_map.mp hk
      exact h2 p hp
theorem ev_inB (h1 : Ed K ta σ H (.tuple (k.map PyData.int))) (h2 : Ev tb σ H (.ref d)) (hd : IsBig K P w H d ps) : Ev (tOp (rInB K P w) ta tb) σ H (.bl (decide (k ∈ ps))) := fun H1 e Q q =>
  h1 H1 e _ fun v H2 e2 r => h2 H2 (e.trans e2) _ fun H3 e3 => by
    obtain ⟨b, rfl, hb⟩ := rp_tints r
    obtain ⟨L, hL, hT, hm⟩ := hd.ex ((e.trans e2).trans e3)
    refine ⟨b, d, k, L, rfl, rfl, ex_t e3 hb, hL, hT, ?_⟩
    rw [show decide (k ∈ L.map (·.2)) = decide (k ∈ ps) from decide_eq_decide.mpr (hm k)]
    exact q H3 (e2.trans e3)
theorem ev_ltT {ns ms : List Int} (h1 : Ed K ta σ H (.tuple (ns.map PyData.int))) (h2 : Ed K tb σ H (.tuple (ms.map PyData.int))) : Ev (tOp (rLtT K) ta tb) σ H (.bl (HT.lexLt ns ms)) := fun H1 e Q q =>
  h1 H1 e _ fun v H2 e2 r => h2 H2 (e.trans e2) _ fun w' H3 e3 r2 => by
    obtain ⟨a, rfl, ha⟩ := rp_tints r
    obtain ⟨b, rfl, hb⟩ := rp_tints r2
    exact ⟨a, b, ns, ms, rfl, rfl, ex_t e3 ha, hb, q H3 (e2.trans e3)⟩
end
end PR
end
section
set_option Elab.async false
set_option linter.all false
set_option maxRecDepth 100000
set_option maxHeartbeats 3200000
/-! PrT6: [e for x in .. for y in ..]. -/
namespace PR
open PySem PySem.Spec PyProof.Rows L2 Evl
theorem flat_take {α β : Type} {f : α → List β} {l : List α} {i : Nat} {x : α} (h : l[i]? = some x) : (l.take (i + 1)).flatMap f = (l.take i).flatMap f ++ f x := by
  rw [List.take_succ, h, List.flatMap_append]
  simp
section
variable {K : PySem.W.Frag} {σ : L2.St} {H : Hp} {te : TE}
/-- a walk over what R tells of the values -/
def EdR {α : Type} (S : Hp → Hp → Prop) (R : Hp → V → α → Prop) (wi : TI) (σ : L2.St) (H : Hp) (ds : List α) : Prop :=
  ∀ H1, Ex H H1 → ∀ Rr : It → Hp → Prop, (∀ J G H2, Ex H1 H2 → (∀ H', S H2 H' → G H') → Walk J ds.length G (fun i H x H' => Ex H H' ∧ ∃ d, ds[i]? = some d ∧ R H' x d) → Rr J H2) → wi σ H1 Rr
theorem edL_lc2 {α : Type} {R : Hp → V → α → Prop} {ds : List α} (hR : ∀ {A B x d}, R A x d → TEx A B → R B x d) {S : Hp → Hp → Prop} {wi wi1 : TI} {j k : Nat} {vs vs1 : List Nat} (m : α → PyData → PyData) (es : List PyData) (h : EdR S R wi σ H ds) (hS : ∀ A B, Ex A B → S A B) (hz : ds.length * es.length ≤ 90000)
    (hw : ∀ x, wipe ((wipe σ vs).set j (some x)) vs = wipe σ vs)
    (h1 : ∀ x H1, Ex H H1 → EdI TEx K wi1 ((wipe σ vs).set j (some x)) H1 es)
    (hw1 : ∀ x y, wipe ((wipe ((wipe σ vs).set j (some x)) vs1).set k (some y)) vs1 = wipe ((wipe σ vs).set j (some x)) vs1)
    (turn : ∀ d e x y H1, Ex H H1 → d ∈ ds → e ∈ es → R H1 x d → Rp K H1 y e → Ed K te ((wipe ((wipe σ vs).set j (some x)) vs1).set k (some y)) H1 (m d e)) :
    EdL K (tLc2 wi (gName j) tYes wi1 (gName k) tYes te vs vs1) σ H (ds.flatMap fun d => es.map (m d)) := fun H1 e0 Q q =>
  h H1 e0 _ fun J G H2 e2 gs w D hD => by
    let f : α → List PyData := fun d => es.map (m d)
    let Pv : Nat → Hp → Prop := fun i H' => Ex H2 H' ∧ ∃ ws, H' D = some (.lst ws) ∧ Rps K H' ws ((ds.take i).flatMap f)
    have big : ∀ i, i ≤ ds.length → ((ds.take i).flatMap f).length = i * es.length := by
      intro i
      induction i with
      | zero => intro _; simp
      | succ i ih =>
        intro hi
        obtain ⟨x, hx⟩ : ∃ x, ds[i]? = some x := ⟨_, List.getElem?_eq_getElem hi⟩
        rw [flat_take hx, List.length_append, ih (by omega), List.length_map, Nat.succ_mul]
    refine ⟨fun i n H' => n = ds.length - i ∧ i ≤ ds.length ∧ Pv i H', ⟨ds.length, by simp, Nat.zero_le _, Ex.new hD, [], upd_same, .nil⟩, ?_⟩
    rintro i _ H' ⟨rfl, hi, e3, ws, hl, rs⟩
    have gH := gs H' (hS _ _ e3)
    rcases Nat.lt_or_ge i ds.length with lt | ge
    · refine .inr ⟨w.goes i H' lt gH, Pv (i + 1), fun H4 p => ⟨_, by omega, rfl, lt, p⟩, fun x H4 y => ?_⟩
      obtain ⟨e4, d, hd, rx⟩ := w.yields i H' x H4 lt gH y
      refine ⟨hw x, ?_⟩
      unfold tYes
      simp only [if_true]
      have e24 : Ex H2 H4 := e3.trans e4
      refine h1 x H4 ((e0.trans e2).trans e24) H4 (Ex.refl _) _ fun J1 G1 H5 e5 gs1 w1 => ?_
      have hD5 : H5 D = some (.lst ws) := (e4.trans e5) _ _ hl
      let Pv1 : Nat → Hp → Prop := fun n H' => Ex H2 H' ∧ R H' x d ∧ TEx H5 H' ∧ ∃ us, H' D = some (.lst us) ∧ Rps K H' us ((ds.take i).flatMap f ++ (es.take n).map (m d))
      refine ⟨fun n c H' => c = es.length - n ∧ n ≤ es.length ∧ Pv1 n H', ⟨es.length, by simp, Nat.zero_le _, e24.trans e5, hR rx (exT e5), TEx.refl _, ws, hD5, by simpa using (rs.ex e4).ex e5⟩, ?_⟩
      rintro n _ H6 ⟨rfl, hn, a1, a2, a3, us, a4, a5⟩
      have g6 := gs1 H6 a3
      rcases Nat.lt_or_ge n es.length with lt1 | ge1
      · refine .inr ⟨w1.goes n H6 lt1 g6, Pv1 (n + 1), fun H7 p => ⟨_, by omega, rfl, lt1, p⟩, fun y H7 yy => ?_⟩
        obtain ⟨e7, ee, he, ry⟩ := w1.yields n H6 y H7 lt1 g6 yy
        refine ⟨hw1 x y, ?_⟩
        try simp only [if_true]
        refine turn d ee x y H7 ((e0.trans e2).trans (a1.trans e7)) (List.mem_of_getElem? hd) (List.mem_of_getElem? he) (hR a2 (exT e7)) ry H7 (Ex.refl _) _ fun v H8 e8 rv => ?_
        have e78 := e7.trans e8
        have h8 : H8 D = some (.lst us) := e78 _ _ a4
        have tx : TEx H8 (upd H8 D (.lst (us ++ [v]))) := TEx.lst h8
        have lu : us.length ≤ 90000 + es.length := by
          have z := a5.len
          rw [List.length_append, big i hi, List.length_map, List.length_take] at z
          have : i * es.length ≤ ds.length * es.length := Nat.mul_le_mul_right _ hi
          omega
        have le : es.length ≤ 90000 := by
          have : 1 * es.length ≤ ds.length * es.length := Nat.mul_le_mul_right _ (by omega)
          omega
        refine ⟨us, h8, by rw [sizeLine_eq]; omega, Ex.mut (a1.trans e78) hD, hR (hR a2 (exT e78)) tx, (a3.trans (exT e78)).trans tx, us ++ [v], upd_same, ?_⟩
        rw [List.take_succ, he]
        simp only [Option.toList_some, List.map_append, List.map_cons, List.map_nil]
        rw [← List.append_assoc]
        exact ((a5.ex e78).up tx).snoc (rv.up tx)
      · have en : n = es.length := Nat.le_antisymm hn ge1
        subst en
        rw [List.take_length] at a5
        refine .inl ⟨w1.stops H6 g6, a1, us, a4, ?_⟩
        rw [flat_take hd]
        exact a5
    · have e : i = ds.length := Nat.le_antisymm hi ge
      subst e
      rw [List.take_length] at rs
      exact .inl ⟨w.stops H' gH, q D ws H' (fresh_back e2 hD) (e2.trans e3) hl rs⟩
/-- a tuple of places, each known to its object -/
def IsPs (K : PySem.W.Frag) (H : Hp) (v : V) (ps : List (List Int)) : Prop := ∃ a vs, v = .ref a ∧ SqT K H a vs ∧ Paired (fun x n => XT H x n) vs ps
theorem xt_all_up {H H' : Hp} {vs : List V} {ps : List (List Int)} (h : Paired (fun x n => XT H x n) vs ps) (e : TEx H H') : Paired (fun x n => XT H' x n) vs ps := Paired.mapP h fun _ _ z => z.up e
theorem IsPs.up {H H' : Hp} {v : V} {ps : List (List Int)} (h : IsPs K H v ps) (e : TEx H H') : IsPs K H' v ps := by
  obtain ⟨a, vs, rfl, hs, r⟩ := h
  exact ⟨a, vs, rfl, e.sq hs, xt_all_up r e⟩
theorem IsPs.rp {H : Hp} {v : V} {ps : List (List Int)} (h : IsPs K H v ps) : Rp K H v (.tuple (ps.map fun p => PyData.tuple (p.map PyData.int))) := by
  obtain ⟨a, vs, rfl, hs, r⟩ := h
  refine .tup hs ?_
  have : ∀ {vs : List V} {ps : List (List Int)}, Paired (fun x n => XT H x n) vs ps → Rps K H vs (ps.map fun p => PyData.tuple (p.map PyData.int)) := by
    intro vs ps r
    induction r with
    | nil => exact .nil
    | cons a t ih => exact .cons a.rp ih
  exact this r
theorem paired_to {F : V → List Int → Prop} : ∀ {vs : List V} {ps : List (List Int)} {i : Nat} {x : V}, Paired F vs ps → vs[i]? = some x → ∃ p, ps[i]? = some p ∧ F x p
  | _, _, _, _, .nil, h => nomatch h
  | _, _, 0, _, .cons a _, h => ⟨_, rfl, by cases h; exact a⟩
  | _, _, i + 1, _, .cons _ t, h => paired_to (i := i) t h
theorem edR_tup {te : TE} {v : V} {ps : List (List Int)} (hj : ∀ H1, Ex H H1 → Ev te σ H1 v) (h : IsPs K H v ps) : EdR TEx (fun H x p => XT H x p) (iTup K te) σ H ps := fun H1 e Rr q =>
  hj H1 e H1 (Ex.refl _) _ fun H2 e2 => by
    obtain ⟨a, vs, rfl, hs, r⟩ := h.up (exT (e.trans e2))
    refine ⟨a, rfl, ⟨vs, hs⟩, q _ (fun H => SqT K H a vs ∧ Paired (fun x n => XT H x n) vs ps) H2 e2 (fun H' t => ⟨t.sq hs, xt_all_up r t⟩) ?_⟩
    rw [← Paired.length r]
    refine walk_tup.mono (fun _ g => g.1) fun i H x H' hi g y => ?_
    obtain ⟨rfl, hx⟩ := y
    obtain ⟨p, hp, hx⟩ := paired_to g.2 hx
    exact ⟨Ex.refl _, p, hp, hx⟩
end
end PR
end
section
set_option Elab.async false
set_option linter.all false
set_option maxRecDepth 100000
set_option maxHeartbeats 1600000
/-! PrU1: a, b = a list. -/
namespace PR
open PySem PySem.Spec PyProof.Rows L2 Evl
section
variable {prog : Program} {w : World} {A : Around} {E : Value → Shared → Prop} {s : Shared}
theorem draw_list {it l : Addr} {items : Array Value} (hne : l ≠ it) : ∀ (n i : Nat) (s : Shared) (Q : List Value → Shared → Prop), s.heap.IsListIter it l i → s.heap.IsList l items → i + n ≤ items.size →
    (∀ h', h'.IsListIter it l (i + n) → Heap.SameBut it s.heap h' → Q ((items.toList.drop i).take n) { s with heap := h' }) → wpAny (model prog w) A (draw (.ref it) n) Q E s
  | 0, i, s, Q, hit, _, _, hQ => wpAny_pure (by simpa using hQ s.heap hit (Heap.SameBut.refl ..))
  | n + 1, i, s, Q, hit, hl, hle, hQ => by
    have lt : i < items.size := by omega
    refine wpAny_bind (m := pyNext (.ref it)) (wpAny_pyNext_list_item hit hl (x := items[i]) (by simp [lt]) fun h1 hit1 hs1 => ?_)
    refine wpAny_bind (wpAny_holding (draw_list hne n (i + 1) _ _ hit1 (hl.at fun o e => hs1.extBut l o hne e) (by omega) fun h2 hit2 hs2 => wpAny_pure ?_))
    have z := hQ h2 (by rw [show i + (n + 1) = i + 1 + n by omega]; exact hit2) (hs1.trans hs2)
    rw [show items.toList.drop i = items[i] :: items.toList.drop (i + 1) by simp [List.drop_eq_getElem_cons, lt], List.take_succ_cons] at z
    exact z
theorem unpack_list {l : Addr} {items : Array Value} {Q : List Value → Shared → Prop} (hh : A.handled = none) (hl : s.heap.IsList l items)
    (hQ : ∀ h', Heap.ExtBut s.heap.objs.size s.heap h' → Q items.toList { s with heap := h' }) : wpAny (model prog w) A (unpackItems (.ref l) items.size none) Q E s := by
  have ne : l ≠ s.heap.objs.size := by
    obtain ⟨o, ho, _⟩ := hl
    exact Nat.ne_of_lt (Heap.lt_size ho)
  unfold unpackItems
  refine wpAny_bind ?_
  unfold notIterableAtAll
  refine wpAny_bind (wpAny_specialOf hl.typeIs slot_list_iter.lookup ?_)
  refine wpAny_pure ?_
  simp only [Bool.false_eq_true, if_false]
  refine wpAny_bind (wpAny_holding (wpAny_pyIter_list hl ?_))
  refine wpAny_bind (wpAny_holding (draw_list ne items.size 0 _ _ ⟨_, Heap.get?_push_size _ rfl, rfl, rfl⟩ (hl.push _) (by omega) fun h1 hit1 hs1 => ?_))
  rw [show List.take items.size (List.drop 0 items.toList) = items.toList by rw [List.drop_zero]; exact List.take_of_length_le (by simp), if_neg (by simp)]
  have hl1 : h1.IsList l items := (hl.push _).at fun o e => hs1.extBut l o ne e
  refine wpAny_bind (wpAny_holding (wpAny_pyNext_list_end hh hit1 hl1 (by simp) fun h2 he2 => ?_))
  simp only [Option.isSome_none, Bool.false_eq_true, if_false]
  exact wpAny_pure (hQ h2 fun b o hb e => he2 b o hb (hs1.extBut b o hb (Heap.get?_push_of_some _ e)))
end
section
variable {X : Cx} {pos : Pos}
/-- (a, b, ..) = a list -/
def gLst (K : PySem.W.Frag) (n : Nat) (t : TGs) : TG := fun v σ H Q => ∃ a xs, v = .ref a ∧ SqL K H a xs ∧ xs.length = n ∧ t xs σ H Q
theorem pg_lst {es : List Expr} {k : Nat} {t : TGs} {n : Nat} (hc : X.calm = true) (h : PGs X es t) (hn : (assignEach es X.env).length = n := by rfl) (hst : (assignEach es X.env).findIdx? (·.1) = none := by rfl) : PG X (.Tuple es k pos) (gLst X.K n t) := by
  refine ⟨fun pins s σ H v u Q I r hw => ?_⟩
  obtain ⟨a, xs, e1, hq, hl, hw⟩ := hw
  subst e1
  cases r
  obtain ⟨its, rv, pl, hz⟩ := I.list hq
  rw [arm_assign_Tuple]
  refine wpAny_bind (wpAny_standAt ?_)
  unfold unpack
  have e : (assignEach es X.env).length = its.toArray.size := by simp [hn, ← hl, rv.length]
  rw [e, hst]
  refine wpAny_bind (wpAny_holding (unpack_list (I.ok.hd hc) pl.isList fun h' hx => ?_))
  have I1 : Inv X pins σ H { s with heap := h' } := I.kept (t' := s.toks) fun b o e => hx b o (Nat.ne_of_lt (Heap.lt_size e)) e
  exact h.run pins _ σ H xs _ Q I1 (by simpa using rv) hw
end
end PR
end
section
set_option Elab.async false
set_option linter.all false
set_option maxRecDepth 100000
set_option maxHeartbeats 4000000
/-! The defs of base. -/
namespace PR
open PySem PySem.Spec PyProof.Rows L2 Evl
/-! ### small words -/
abbrev tI (ns : List Int) : PyData := .tuple (ns.map PyData.int)
abbrev tS (ss : List Str) : PyData := .tuple (ss.map PyData.str)
def lettersS : Str := "abcdefghijklmnopqrstuvwxyz"
def nameOk (x : Str) : Bool := (decide ((1 : Int) ≤ x.length) && decide ((x.length : Int) ≤ 8)) && x.cps.toList.all fun c => decide (c ∈ lettersS.cps.toList)
section
variable {K : PySem.W.Frag} {σ : L2.St} {H : Hp} {ta tb : TE}
def rLenStr : List V → Hp → VK → Prop := fun xs H Q => ∃ z, xs = [.str z] ∧ z.length ≤ sizeLine ∧ Q (.int z.length) H
theorem ev_lenS {z : Str} (h : Ev ta σ H (.str z)) (hz : z.length ≤ 100000) : Ev (tCB rLenStr (tCons ta tNil)) σ H (.int (z.length : Int)) := fun H1 e Q q => h H1 e _ fun H2 e2 => ⟨z, rfl, sz_of hz, q H2 e2⟩
def rInSign : R2 := fun x y H Q => ∃ (c : Nat) (z : Str), x = .str ⟨#[c]⟩ ∧ y = .str z ∧ Q (.bl (decide (c ∈ z.cps.toList))) H
theorem rv_inSign {c : Nat} {z : Str} : RV rInSign (.str ⟨#[c]⟩) (.str z) H (.bl (decide (c ∈ z.cps.toList))) := fun H1 e Q q => ⟨c, z, rfl, rfl, q H1 (Ex.refl _)⟩
end
/-- a promise: of these ints, True -/
def spWhole : Sp := fun vs H Q _ => ∃ i : Int, vs = [.int i] ∧ ∀ H', Ex H H' → Q (.bl true) H'
theorem sc_is_whole : FnScope ["value"] ["value"] (defScope (gF "is_whole" 12).st) := ⟨rfl, rfl, rfl, by decide +kernel, rfl, by decide +kernel, by decide +kernel⟩
theorem c_is_whole {P : Program} {w : World} {K : PySem.W.Frag} {mg : Str → Option Value} {base : Heap} (W : W0 K mg base) : Cal P w K mg base 1 (gF "is_whole" 12) ["value"] (spWhole) := by
  refine Cal.of W 0 rfl sc_is_whole (fun vs H Q E h => ?len) (fun _ _ _ _ _ _ us hl => match us, hl with | [_], _ => rfl) (fun cdv A outer s H vs Q E hr h => ?body)
  case len => obtain ⟨i, rfl, _⟩ := h; rfl
  have nd := sc_is_whole.nd
  refine ⟨_, (pss_one (ps_ret (pe_and (pe_callB (k_isi K) rfl (W.f 1 rfl) bb_isinstance (pa_cons (pv 0) (pa_cons (pe_bltn rfl (W.f 4 rfl) bb_int relTy) pa_nil))) (pe_one (pe_not (pe_callB (k_isi K) rfl (W.f 1 rfl) bb_isinstance (pa_cons (pv 0) (pa_cons (pe_bltn rfl (W.f 5 rfl) bb_bool relTy) pa_nil)))))))), ?_⟩
  obtain ⟨i, rfl, q⟩ := h
  exact s_ret (ev_andV (a := true) (b := true) (ev_isi .int (ed_var rfl (.int i)) ev_c rfl) fun _ => ev_notV (a := false) (ev_isi .bool (ed_var rfl (.int i)) ev_c rfl)) q
theorem ev_wholeC {σ : L2.St} {H : Hp} {ta : TE} {i : Int} (h : Ev ta σ H (.int i)) : Ev (tCall spWhole [] E0 (tCons ta tNil)) σ H (.bl true) := fun H1 e Q q => h H1 e _ fun H2 e2 => ⟨i, rfl, fun H3 e3 => q H3 (e2.trans e3)⟩
def spInteger : Sp := fun vs H Q _ => ∃ i : Int, vs = [.int i] ∧ -1000 < i ∧ i < 1000 ∧ ∀ H', Ex H H' → Q (.bl true) H'
theorem sc_is_integer : FnScope ["value"] ["value"] (defScope (gF "is_integer" 13).st) := ⟨rfl, rfl, rfl, by decide +kernel, rfl, by decide +kernel, by decide +kernel⟩
theorem c_is_integer {P : Program} {w : World} {K : PySem.W.Frag} {mg : Str → Option Value} {base : Heap} (W : W0 K mg base) : Cal P w K mg base 2 (gF "is_integer" 13) ["value"] (spInteger) := by
  refine Cal.of W 1 rfl sc_is_integer (fun vs H Q E h => ?len) (fun _ _ _ _ _ _ us hl => match us, hl with | [_], _ => rfl) (fun cdv A outer s H vs Q E hr h => ?body)
  case len => obtain ⟨i, rfl, _⟩ := h; rfl
  have nd := sc_is_integer.nd
  refine ⟨_, (pss_one (ps_ret (pe_and (k_cal K (c_is_whole W) (hr.mono (by decide)) rfl (W.g 0 rfl) (pa_cons (pv 0) pa_nil)) (pe_one (pe_chain op_lt op_lt (pe_un un_neg (pe_gi rfl (W.i 5 rfl))) (pv 0) (pe_gi rfl (W.i 5 rfl))))))), ?_⟩
  obtain ⟨i, rfl, h1, h2, q⟩ := h
  have hb : (decide (-(10 : Int) ^ 60 < i) && decide (i < (10 : Int) ^ 60)) = true := by
    rw [decide_eq_true (by omega), decide_eq_true (by omega)] <;> rfl
  exact s_ret (ev_andV (a := true) (b := true) (ev_wholeC (ev_var rfl)) fun _ => ev_chain (ev_un ev_c ru_neg) (ev_var rfl) ev_c hb) q
theorem ev_integerC {σ : L2.St} {H : Hp} {ta : TE} {i : Int} (h : Ev ta σ H (.int i)) (h1 : -1000 < i) (h2 : i < 1000) : Ev (tCall spInteger [] E0 (tCons ta tNil)) σ H (.bl true) := fun H1 e Q q => h H1 e _ fun H2 e2 => ⟨i, rfl, h1, h2, fun H3 e3 => q H3 (e2.trans e3)⟩
def spName : Sp := fun vs H Q _ => ∃ x : Str, vs = [.str x] ∧ nameOk x = true ∧ ∀ H', Ex H H' → Q (.bl true) H'
theorem sc_is_name : FnScope ["value", "sign"] ["value"] (defScope (gF "is_name" 14).st) := ⟨rfl, rfl, rfl, by decide +kernel, rfl, by decide +kernel, by decide +kernel⟩
theorem c_is_name {P : Program} {w : World} {K : PySem.W.Frag} {mg : Str → Option Value} {base : Heap} (W : W0 K mg base) : Cal P w K mg base 1 (gF "is_name" 14) ["value"] (spName) := by
  refine Cal.of W 2 rfl sc_is_name (fun vs H Q E h => ?len) (fun _ _ _ _ _ _ us hl => match us, hl with | [_], _ => rfl) (fun cdv A outer s H vs Q E hr h => ?body)
  case len => obtain ⟨i, rfl, _⟩ := h; rfl
  have nd := sc_is_name.nd
  refine ⟨_, (pss_cons (ps_if (PW.pt (pw_or (pt_not (pt_val (pe_callB (k_isi K) rfl (W.f 1 rfl) bb_isinstance (pa_cons (pv 0) (pa_cons (pe_bltn rfl (W.f 3 rfl) bb_str relTy) pa_nil))))) (pw_or1 (pt_not (pt_chain op_le op_le pe_int (pe_callB call_len_str rfl (W.f 0 rfl) bb_len (pa_cons (pv 0) pa_nil)) (pe_gi rfl (W.i 0 rfl))))))) (pss_one (ps_ret pe_bl)) pss_nil)
      (pss_one (ps_ret (pe_callB (k_all K rfl) rfl (W.f 6 rfl) bb_all (pa_cons (pe_lc (own := [("sign", 1)]) (g := (gName 1)) (tt := tYes) rfl nd (pi_str (pv 0)) (blkOk_by (N := ["value", "sign"]) (sc := defScope (gF "is_name" 14).st) (by decide +kernel)) (fun _ _ _ _ _ => (pg_name (i := 1) nd rfl (by first | exact Or.inl rfl | exact Or.inr rfl))) (fun _ _ _ _ _ => pts_nil) (fun _ _ _ _ _ => (pe_cmpR op_in_sign (pv 1) (pe_gs rfl (W.s 0 rfl)) (by with_unfolding_all rfl)))) pa_nil))))), ?_⟩
  obtain ⟨x, rfl, hx, q⟩ := h
  have hx' := hx
  unfold nameOk at hx'
  rw [Bool.and_eq_true] at hx'
  obtain ⟨hc, hs⟩ := hx'
  have hz : x.length ≤ 100000 := by
    have := of_decide_eq_true (Bool.and_eq_true_iff.mp hc).2
    omega
  refine q_when (b := false) (et_is (et_or (et_not (et_B (ev_isi .str (ed_var rfl (.str x)) ev_c rfl))) fun _ => et_not (et_test (ev_chain ev_c (ev_lenS (ev_var rfl) hz) ev_c hc))) rfl) (fun z => nomatch z) fun _ H1 e1 => ?_
  refine s_ret (ev_all (bs := x.cps.toList.map fun c => decide (c ∈ lettersS.cps.toList)) (edL_is (edL_map (fun d => match d with | .str y => .bool (decide ((y.cps.getD 0 0) ∈ lettersS.cps.toList)) | _ => .none) (edI_str (ev_var rfl)) (fun _ _ => exT) (by unfold sgD; rw [List.length_map, Array.length_toList]; exact hz) (fun _ => rfl) fun d y H2 e2 hd r => ?_) ?_) ?_) fun H2 e2 => q H2 (e1.trans e2)
  · obtain ⟨c, _, rfl⟩ := List.mem_map.mp hd
    cases r
    exact ed_bl (ev_op (ev_var rfl) ev_c rv_inSign)
  · unfold sgD
    rw [List.map_map, List.map_map]
    rfl
  · rw [List.all_map]
    exact hs
theorem ev_nameC {σ : L2.St} {H : Hp} {ta : TE} {i : Str} (h : Ev ta σ H (.str i)) (h1 : nameOk i = true) : Ev (tCall spName [] E0 (tCons ta tNil)) σ H (.bl true) := fun H1 e Q q => h H1 e _ fun H2 e2 => ⟨i, rfl, h1, fun H3 e3 => q H3 (e2.trans e3)⟩
def spCount : Sp := fun vs H Q _ => ∃ i j k : Int, vs = [.int i, .int j, .int k] ∧ -1000 < i ∧ i < 1000 ∧ j ≤ i ∧ i ≤ k ∧ ∀ H', Ex H H' → Q .non H'
theorem sc_require_count : FnScope ["value", "least", "most"] ["value", "least", "most"] (defScope (gF "require_count" 15).st) := ⟨rfl, rfl, rfl, by decide +kernel, rfl, by decide +kernel, by decide +kernel⟩
theorem c_require_count {P : Program} {w : World} {K : PySem.W.Frag} {mg : Str → Option Value} {base : Heap} (W : W0 K mg base) : Cal P w K mg base 3 (gF "require_count" 15) ["value", "least", "most"] (spCount) := by
  refine Cal.of W 3 rfl sc_require_count (fun vs H Q E h => ?len) (fun _ _ _ _ _ _ us hl => match us, hl with | [_, _, _], _ => rfl) (fun cdv A outer s H vs Q E hr h => ?body)
  case len => obtain ⟨_, _, _, rfl, _⟩ := h; rfl
  have nd := sc_require_count.nd
  refine ⟨_, (pss_one (ps_if (PW.pt (pw_or (pt_not (pt_val (k_cal K (c_is_integer W) (hr.mono (by decide)) rfl (W.g 1 rfl) (pa_cons (pv 0) pa_nil)))) (pw_or1 (pt_not (pt_chain op_le op_le (pv 1) (pv 0) (pv 2)))))) (pss_one ps_never) pss_nil)), ?_⟩
  obtain ⟨i, j, k, rfl, h1, h2, h3, h4, q⟩ := h
  have hb : (decide (j ≤ i) && decide (i ≤ k)) = true := by
    rw [decide_eq_true h3, decide_eq_true h4] <;> rfl
  exact s_when (b := false) (et_is (et_or (et_not (et_B (ev_integerC (ev_var rfl) h1 h2))) fun _ => et_not (et_test (ev_chain (ev_var rfl) (ev_var rfl) (ev_var rfl) hb))) rfl) (fun z => nomatch z) fun _ H1 e1 => q H1 e1
theorem dr_countC {σ : L2.St} {H : Hp} {ta tb tc : TE} {i j k : Int} (h : Ev ta σ H (.int i)) (h' : Ev tb σ H (.int j)) (h'' : Ev tc σ H (.int k)) (h1 : -1000 < i) (h2 : i < 1000) (h3 : j ≤ i) (h4 : i ≤ k) : Ev (tCall spCount [] E0 (tCons ta (tCons tb (tCons tc tNil)))) σ H .non := fun H1 e Q q =>
  h H1 e _ fun H2 e2 => h' H2 (e.trans e2) _ fun H3 e3 => h'' H3 ((e.trans e2).trans e3) _ fun H4 e4 => ⟨i, j, k, rfl, h1, h2, h3, h4, fun H5 e5 => q H5 (((e2.trans e3).trans e4).trans e5)⟩
/-- a row of names -/
structure RowOk (ss : List Str) : Prop where
  len1 : 1 ≤ ss.length
  len2 : ss.length ≤ 40
  nd : ss.Nodup
  ok : ∀ s ∈ ss, nameOk s = true
def spRow (K : PySem.W.Frag) : Sp := fun vs H Q _ => ∃ v ss, vs = [v] ∧ Rp K H v (tS ss) ∧ RowOk ss ∧ ∀ H', Ex H H' → Q (.bl true) H'
theorem dc_names {ss : List Str} (nd : ss.Nodup) {g : Nat → V} : dcAt (fun i => match (ss.map PyData.str).getD i .none with | .str x => Sum.inr x | _ => Sum.inl 0) g ss.length = (List.range ss.length).map fun i => (Sum.inr (ss.getD i Str.empty), g i) := by
  have hk : ∀ i, i < ss.length → (match (ss.map PyData.str).getD i .none with | .str x => (Sum.inr x : Key) | _ => Sum.inl 0) = Sum.inr (ss.getD i Str.empty) := fun i hi => by
    simp [List.getD_eq_getElem?_getD, List.getElem?_map, List.getElem?_eq_getElem hi]
  rw [dcAt_nodup fun i j hi hj e => ?_]
  · refine List.map_congr_left fun i hi => ?_
    rw [hk i (List.mem_range.mp hi)]
  · rw [hk i hi, hk j hj] at e
    have e1 : ss.getD i Str.empty = ss.getD j Str.empty := Sum.inr.inj e
    simp [List.getD_eq_getElem?_getD, List.getElem?_eq_getElem hi, List.getElem?_eq_getElem hj] at e1
    exact (List.getElem_inj nd).mp e1
theorem sc_is_row : FnScope ["value", "name"] ["value"] (defScope (gF "is_row" 18).st) := ⟨rfl, rfl, rfl, by decide +kernel, rfl, by decide +kernel, by decide +kernel⟩
theorem c_is_row {P : Program} {w : World} {K : PySem.W.Frag} {mg : Str → Option Value} {base : Heap} (W : W0 K mg base) : Cal P w K mg base 2 (gF "is_row" 18) ["value"] (spRow K) := by
  refine Cal.of W 4 rfl sc_is_row (fun vs H Q E h => ?len) (fun _ _ _ _ _ _ us hl => match us, hl with | [_], _ => rfl) (fun cdv A outer s H vs Q E hr h => ?body)
  case len => obtain ⟨_, _, rfl, _⟩ := h; rfl
  have nd := sc_is_row.nd
  refine ⟨_, (pss_cons (ps_if (PW.pt (pw_or (pt_not (pt_val (pe_callB (k_isi K) rfl (W.f 1 rfl) bb_isinstance (pa_cons (pv 0) (pa_cons (pe_bltn rfl (W.f 2 rfl) bb_tuple relTy) pa_nil))))) (pw_or (pt_not (pt_chain op_le op_le pe_int (pe_callB (k_len K) rfl (W.f 0 rfl) bb_len (pa_cons (pv 0) pa_nil)) (pe_gi rfl (W.i 1 rfl)))) (pw_or1 (pt_not (pt_val (pe_callB (k_all K rfl) rfl (W.f 6 rfl) bb_all (pa_cons (pe_lc (own := [("name", 1)]) (g := (gName 1)) (tt := tYes) rfl nd (k_pi_tup K (pv 0)) (blkOk_by (N := ["value", "name"]) (sc := defScope (gF "is_row" 18).st) (by decide +kernel)) (fun _ _ _ _ _ => (pg_name (i := 1) nd rfl (by first | exact Or.inl rfl | exact Or.inr rfl))) (fun _ _ _ _ _ => pts_nil) (fun _ _ _ _ _ => (k_cal K (c_is_name W) (hr.mono (by decide)) rfl (W.g 2 rfl) (pa_cons (pv 1) pa_nil)))) pa_nil)))))))) (pss_one (ps_ret pe_bl)) pss_nil)
      (pss_one (ps_ret (pe_cmpR op_eq (pe_callB call_lenD rfl (W.f 0 rfl) bb_len (pa_cons (pe_dc (own := [("name", 1)]) (g := (gName 1)) (tt := tYes) rfl nd (k_pi_tup K (pv 0)) (blkOk_by (N := ["value", "name"]) (sc := defScope (gF "is_row" 18).st) (by decide +kernel)) (fun _ _ _ _ _ => (pg_name (i := 1) nd rfl (by first | exact Or.inl rfl | exact Or.inr rfl))) (fun _ _ _ _ _ => pts_nil) (fun _ _ _ _ _ => (pv 1)) (fun _ _ _ _ _ => pe_bl)) pa_nil)) (pe_callB (k_len K) rfl (W.f 0 rfl) bb_len (pa_cons (pv 0) pa_nil)) (nomark _))))), ?_⟩
  obtain ⟨v, ss, rfl, hv, ok, q⟩ := h
  have hlen : (ss.map PyData.str).length = ss.length := List.length_map ..
  have hb : (decide ((1 : Int) ≤ ((ss.map PyData.str).length : Int)) && decide (((ss.map PyData.str).length : Int) ≤ 40)) = true := by
    rw [hlen, decide_eq_true (by have := ok.len1; omega), decide_eq_true (by have := ok.len2; omega)] <;> rfl
  refine q_when (b := false) (et_is (et_or (et_not (et_B (ev_isi .tuple (ed_var rfl hv) ev_c rfl))) fun _ => et_or (et_not (et_test (ev_chain ev_c (ev_lenT (ed_var rfl hv)) ev_c hb))) fun _ =>
    et_not (et_B (ev_all (bs := ss.map fun _ => true) (b := true) (edL_is (edL_map (fun _ => .bool true) (edI_tup (ed_var rfl hv)) (fun _ _ => exT) (by rw [hlen]; have := ok.len2; omega) (fun _ => rfl) fun d y H2 e2 hd r => ?_) ?_) ?_))) rfl) (fun z => nomatch z) fun _ H1 e1 => ?_
  · obtain ⟨x, hx, rfl⟩ := List.mem_map.mp hd
    cases r
    exact ed_bl (ev_nameC (ev_var rfl) (ok.ok x hx))
  · rw [List.map_map, List.map_map]
    rfl
  · simp
  · refine s_ret (ev_is (ev_op (ev_lenK (evK_map (fun d => match d with | .str x => Sum.inr x | _ => Sum.inl 0) (fun _ => .bl true) (edI_tup (ed_var rfl (hv.ex e1))) (fun _ _ => exT) (by rw [hlen]; have := ok.len2; omega) (fun _ => rfl) fun d y H2 e2 hd r => ?_)) (ev_lenT (ed_var rfl (hv.ex e1))) (rv_eq rfl)) ?_) fun H2 e2 => q H2 (e1.trans e2)
    · obtain ⟨x, hx, rfl⟩ := List.mem_map.mp hd
      cases r
      exact ⟨ev_var rfl, ev_c⟩
    · rw [hlen, dc_names ok.nd, List.length_map, List.length_range, decide_eq_true rfl]
end PR
end
section
set_option Elab.async false
set_option linter.all false
set_option maxRecDepth 100000
set_option maxHeartbeats 4000000
/-! The defs of orders. -/
namespace PR
open PySem PySem.Spec PyProof.Rows L2 Evl
/-! ### places by lists of ints -/
def mostAt (ns : List Int) : Nat → Int
  | 0 => -1
  | i + 1 => if ns.getD i 0 > mostAt ns i then ns.getD i 0 else mostAt ns i
def bendsTo (ns : List Int) : Nat → List Int
  | 0 => []
  | i + 1 => if mostAt ns (i + 1) = (i : Int) then bendsTo ns i ++ [(i : Int) + 1] else bendsTo ns i
def bends (ns : List Int) : List Int := bendsTo ns ns.length
theorem bendsTo_len (ns : List Int) : ∀ i, (bendsTo ns i).length ≤ i
  | 0 => Nat.le_refl _
  | i + 1 => by
    have := bendsTo_len ns i
    unfold bendsTo
    split
    · rw [List.length_append, List.length_singleton]; omega
    · omega
def spBends (K : PySem.W.Frag) : Sp := fun vs H Q _ => ∃ v ns, vs = [v] ∧ Rp K H v (tI ns) ∧ ns.length ≤ 1000 ∧ ∀ p H', H p = none → Ex H H' → H' p = some (.lst ((bends ns).map V.int)) → Q (.ref p) H'
theorem sc_block_ends : FnScope ["places", "found", "most", "index", "place"] ["places"] (defScope (gF "block_ends" 19).st) := ⟨rfl, rfl, rfl, by decide +kernel, rfl, by decide +kernel, by decide +kernel⟩
theorem c_block_ends {P : Program} {w : World} {K : PySem.W.Frag} {mg : Str → Option Value} {base : Heap} (W : W0 K mg base) : Cal P w K mg base 1 (gF "block_ends" 19) ["places"] (spBends K) := by
  refine Cal.of W 5 rfl sc_block_ends (fun vs H Q E h => ?len) (fun _ _ _ _ _ _ us hl => match us, hl with | [_], _ => rfl) (fun cdv A outer s H vs Q E hr h => ?body)
  case len => obtain ⟨_, _, rfl, _⟩ := h; rfl
  have nd := sc_block_ends.nd
  refine ⟨_, (pss_cons (ps_par (i := 1) (j := 2) rfl nd rfl rfl (by decide) rfl rfl (pa_cons (pe_lst pa_nil) (pa_cons (pe_un un_neg pe_int) pa_nil)) rfl)
      (pss_cons (ps_for PassesOwn.never rfl (pi_enumT rfl (W.f 9 rfl) (pa_cons (pv 0) pa_nil)) (pg_tup rfl (pgs_cons (pg_name (i := 3) nd rfl (Or.inl rfl)) (pgs_cons (pg_name (i := 4) nd rfl (Or.inl rfl)) pgs_nil))) (pss_cons (ps_set (i := 2) nd rfl (Or.inl rfl) (pe_callB (call_max2 rfl) rfl (W.f 12 rfl) bb_max (pa_cons (pv 2) (pa_cons (pv 4) pa_nil))))
      (pss_one (ps_if (pt_cmpR op_eq (pv 2) (pv 3) (nomark _)) (pss_one (ps_expr (k_bm K PySem.F.plainAttrs_list PySem.F.slot_list_append PySem.F.type_list_append mt_append (pv 1) (pa_cons (pe_op op_add (pv 3) pe_int) pa_nil)))) pss_nil))))
      (pss_one (ps_ret (pv 1))))), ?_⟩
  obtain ⟨v, ns, rfl, hv, hl, q⟩ := h
  refine q_parMD (K := K) edL_nil (ed_int (ev_un ev_c ru_neg)) fun p vs w' H1 hp e1 hl1 r1 rw' => ?_
  cases rw'
  cases r1
  refine q_forD (edI_enT (eds_cons (ed_var rfl (hv.ex e1)) eds_nil)) (fun H2 i σ' H' => ∃ y3 y4, σ' = [some v, some (.ref p), some (.int (mostAt ns i)), y3, y4] ∧ Ex H H' ∧ TEx H2 H' ∧ H' p = some (.lst ((bendsTo ns i).map V.int)))
    (fun H2 e2 => ⟨none, none, rfl, e1.trans e2, TEx.refl _, e2 _ _ hl1⟩) (fun H2 i σ' H' _ _ p => by obtain ⟨_, _, _, _, t, _⟩ := p; exact t) (fun H2 i d x σ' H' H'' e2 hd pv e3 rx => ?_) (fun H2 σ' H' e2 pv => ?_)
  · obtain ⟨y3, y4, rfl, eH, tH, hp'⟩ := pv
    have hi : i < ns.length := by
      have := (List.getElem?_eq_some_iff.mp hd).1
      rw [enD_len, List.length_map] at this
      exact this
    have hgi : (ns.map PyData.int)[i]? = some (.int (ns.getD i 0)) := by
      rw [List.getElem?_map, List.getElem?_eq_getElem hi, List.getD_eq_getElem?_getD, List.getElem?_eq_getElem hi] <;> rfl
    have ed := enD_at hgi
    rw [ed] at hd
    cases hd
    refine g_pair rx fun v1 v2 r1 r2 => ?_
    cases r1
    cases r2
    refine q_asg (v := .int (mostAt ns (i + 1))) (ev_is (ev_max2 (ev_var rfl) (ev_var rfl)) (by rfl)) fun H4 e4 => ?_
    have hp4 : H4 p = some (.lst ((bendsTo ns i).map V.int)) := e4 _ _ (e3 _ _ hp')
    have t4 : TEx H2 H4 := (tH.trans (exT e3)).trans (exT e4)
    refine s_when (b := decide (mostAt ns (i + 1) = (i : Int))) (et_is (et_test (ev_op (ev_var rfl) (ev_var rfl) (rv_eq rfl))) (by rw [dec_int, Bool.eq_iff_iff]; simp)) (fun hb H5 e5 => ?_) (fun hb H5 e5 => ?_)
    · have hb' := of_decide_eq_true hb
      have hp5 := e5 _ _ hp4
      refine s_app hp5 (ev_var rfl) (ev_op (ev_var rfl) ev_c rv_I0) (by rw [List.length_map]; have := bendsTo_len ns i; omega) fun H6 e6 => ?_
      have hp6 := e6 _ _ hp5
      refine ⟨_, _, rfl, Ex.mut (((eH.trans e3).trans e4).trans (e5.trans e6)) hp, ((t4.trans (exT e5)).trans (exT e6)).trans (TEx.lst hp6), ?_⟩
      rw [upd_same]
      show some (HO.lst _) = some (HO.lst (List.map V.int (if mostAt ns (i + 1) = (i : Int) then bendsTo ns i ++ [(i : Int) + 1] else bendsTo ns i)))
      rw [if_pos hb', List.map_append]
      rfl
    · have hb' := of_decide_eq_false hb
      refine ⟨_, _, rfl, ((eH.trans e3).trans e4).trans e5, t4.trans (exT e5), ?_⟩
      rw [e5 _ _ hp4]
      show some (HO.lst _) = some (HO.lst (List.map V.int (if mostAt ns (i + 1) = (i : Int) then bendsTo ns i ++ [(i : Int) + 1] else bendsTo ns i)))
      rw [if_neg hb']
  · obtain ⟨y3, y4, rfl, eH, tH, hp'⟩ := pv
    refine s_ret (ev_var rfl) fun H3 e3 => q p H3 hp (eH.trans e3) ?_
    rw [e3 _ _ hp', enD_len, List.length_map]
    rfl
/-! ### dicts of names -/
def namK (l : List Str) (g : Nat → V) : List (Key × V) := (List.range l.length).map fun i => (Sum.inr (l.getD i Str.empty), g i)
def pos (l : List Str) (x : Str) : Int := (l.idxOf x : Nat)
abbrev atK (l : List Str) : List (Key × V) := namK l fun i => .int (i : Nat)
theorem namK_cons (y : Str) (r : List Str) (g : Nat → V) : namK (y :: r) g = (Sum.inr y, g 0) :: namK r fun i => g (i + 1) := by
  unfold namK
  rw [List.length_cons, List.range_succ_eq_map, List.map_cons, List.map_map]
  rfl
theorem namK_val {x : Str} : ∀ {l : List Str} {g : Nat → V}, x ∈ l → valV (namK l g) (Sum.inr x) = some (g (l.idxOf x))
  | [], _, h => by cases h
  | y :: r, g, h => by
    rw [namK_cons]
    by_cases e : y = x
    · rw [valV_pos (by rw [e]), List.idxOf_cons, show (y == x) = true from beq_iff_eq.mpr e] <;> rfl
    · rw [valV_neg (fun z => e (Sum.inr.inj z)), List.idxOf_cons, show (y == x) = false from beq_eq_false_iff_ne.mpr e, namK_val (l := r) ((List.mem_cons.mp h).resolve_left fun z => e z.symm)]
      rfl
theorem namK_none {x : Str} : ∀ {l : List Str} {g : Nat → V}, x ∉ l → valV (namK l g) (Sum.inr x) = none
  | [], _, _ => rfl
  | y :: r, g, h => by
    rw [namK_cons, valV_neg (fun z => h (by rw [← Sum.inr.inj z]; exact List.mem_cons_self)), namK_none fun z => h (List.mem_cons_of_mem _ z)]
theorem enD_strs (ss : List Str) : enD (ss.map PyData.str) = (List.range ss.length).map fun i => .tuple [.int (i : Nat), .str (ss.getD i Str.empty)] := by
  unfold enD
  rw [List.length_map]
  refine List.map_congr_left fun i hi => ?_
  have hi' := List.mem_range.mp hi
  simp [List.getD_eq_getElem?_getD, List.getElem?_map, List.getElem?_eq_getElem hi']
theorem mem_enS {ss : List Str} {a b : PyData} (h : (.tuple [a, b]) ∈ enD (ss.map PyData.str)) : ∃ i, i < ss.length ∧ a = .int (i : Nat) ∧ b = .str (ss.getD i Str.empty) := by
  rw [enD_strs] at h
  obtain ⟨i, hi, e⟩ := List.mem_map.mp h
  injection e with e
  injection e with e1 e2
  injection e2 with e2 _
  exact ⟨i, List.mem_range.mp hi, e1.symm, e2.symm⟩
/-- {name: g(at) for at, name in enumerate(row)} -/
def keyE : PyData → Key
  | .tuple [_, .str x] => Sum.inr x
  | _ => Sum.inl 0
def valE (g : Nat → V) : PyData → V
  | .tuple [.int i, _] => g i.toNat
  | _ => .non
theorem dc_enum {ss : List Str} (nd : ss.Nodup) (g : Nat → V) : dcAt (fun i => keyE ((enD (ss.map PyData.str)).getD i .none)) (fun i => valE g ((enD (ss.map PyData.str)).getD i .none)) (enD (ss.map PyData.str)).length = namK ss g := by
  have hi : ∀ i, i < ss.length → (enD (ss.map PyData.str)).getD i .none = .tuple [.int (i : Nat), .str (ss.getD i Str.empty)] := fun i hi => by
    rw [enD_strs, List.getD_eq_getElem?_getD, List.getElem?_map, List.getElem?_range hi] <;> rfl
  have hl : (enD (ss.map PyData.str)).length = ss.length := by rw [enD_len, List.length_map]
  rw [hl, dcAt_nodup fun i j h1 h2 e => ?_]
  · unfold namK
    refine List.map_congr_left fun i h => ?_
    rw [hi i (List.mem_range.mp h)]
    show (Sum.inr (ss.getD i Str.empty), g (i : Int).toNat) = _
    rw [Int.toNat_natCast]
  · rw [hi i h1, hi j h2] at e
    have e1 : ss.getD i Str.empty = ss.getD j Str.empty := Sum.inr.inj e
    simp [List.getD_eq_getElem?_getD, List.getElem?_eq_getElem h1, List.getElem?_eq_getElem h2] at e1
    exact (List.getElem_inj nd).mp e1
theorem mem_zipS {ss : List Str} {a b : PyData} (h : (.tuple [a, b]) ∈ zpD (ss.map PyData.str) ((ss.map PyData.str).drop 1)) : ∃ x y, x ∈ ss ∧ y ∈ ss ∧ a = .str x ∧ b = .str y := by
  unfold zpD at h
  obtain ⟨p, hp, e⟩ := List.mem_map.mp h
  injection e with e
  injection e with e1 e2
  injection e2 with e2 _
  obtain ⟨h1, h2⟩ := List.of_mem_zip hp
  obtain ⟨x, hx, ex⟩ := List.mem_map.mp h1
  obtain ⟨y, hy, ey⟩ := List.mem_map.mp (List.mem_of_mem_drop h2)
  exact ⟨x, y, hx, hy, by rw [← e1, ← ex], by rw [← e2, ← ey]⟩
/-- not wanted further: any value -/
def spNeed (K : PySem.W.Frag) : Sp := fun vs H Q _ => ∃ v dl u l, vs = [v, .ref dl] ∧ Rp K H v (tS u) ∧ u.length ≤ 1000 ∧ H dl = some (.dK (atK l)) ∧ (∀ x ∈ u, x ∈ l) ∧ ∀ v H', Ex H H' → Q v H'
theorem sc_needless_in : FnScope ["upper", "places", "one", "other"] ["upper", "places"] (defScope (gF "needless_in" 21).st) := ⟨rfl, rfl, rfl, by decide +kernel, rfl, by decide +kernel, by decide +kernel⟩
theorem c_needless_in {P : Program} {w : World} {K : PySem.W.Frag} {mg : Str → Option Value} {base : Heap} (W : W0 K mg base) : Cal P w K mg base 1 (gF "needless_in" 21) ["upper", "places"] (spNeed K) := by
  refine Cal.of W 6 rfl sc_needless_in (fun vs H Q E h => ?len) (fun _ _ _ _ _ _ us hl => match us, hl with | [_, _], _ => rfl) (fun cdv A outer s H vs Q E hr h => ?body)
  case len => obtain ⟨_, _, _, _, rfl, _⟩ := h; rfl
  have nd := sc_needless_in.nd
  refine ⟨_, (pss_one (ps_ret (pe_callTy (k_tuple K) rfl (W.f 2 rfl) bb_tuple (pa_cons (pe_lc (own := [("one", 2), ("other", 3)]) (g := (gTup K 2 (gCons (gName 2) (gCons (gName 3) gNil)))) rfl nd (RZ.pi_zipA rfl (W.f 10 rfl) (pa_cons (pv 0) (pa_cons (pe_slice (k_slT K) (pv 0) (po_some pe_int) po_none) pa_nil))) (blkOk_by (N := ["upper", "places", "one", "other"]) (sc := defScope (gF "needless_in" 21).st) (by decide +kernel)) (fun _ _ _ _ _ => (pg_tup rfl (pgs_cons (pg_name (i := 2) nd rfl (by first | exact Or.inl rfl | exact Or.inr rfl)) (pgs_cons (pg_name (i := 3) nd rfl (by first | exact Or.inl rfl | exact Or.inr rfl)) pgs_nil)))) (fun _ _ _ _ _ => (pts_one (pt_cmpR op_eq (pe_dget (hu_of hr) (pv 1) (pv 3) (fun _ _ => rfl)) (pe_op op_add (pe_dget (hu_of hr) (pv 1) (pv 2) (fun _ _ => rfl)) pe_int) (nomark _)))) (fun _ _ _ _ _ => (pe_tup (pa_cons (pv 2) (pa_cons (pv 3) pa_nil))))) pa_nil)))), ?_⟩
  obtain ⟨v, dl, u, l, rfl, hv, hz, hd, hm, q⟩ := h
  refine s_retD (d := .tuple _) (ed_tupL (edL_flt2 (fun d => match d with | .tuple [.str a, .str b] => decide (V.int (pos l b) = V.int (pos l a + 1)) | _ => false) id
    (edI_zpT (eds_cons (ed_var rfl hv) (eds_cons (ed_is (ed_sl (ed_var rfl hv) (eo_some ev_c) eo_none) (congrArg _ (cutL_from _ 1))) eds_nil))) (fun _ _ => exT) (by unfold zpD; rw [List.length_map, List.length_zip, List.length_map]; omega) (fun _ _ => rfl) zpD_pairs fun a b x y H1 e1 hab r1 r2 => ?_)) fun v' H1 e1 _ => q v' H1 e1
  obtain ⟨s1, s2, h1, h2, rfl, rfl⟩ := mem_zipS hab
  have g1 : valV (atK l) (Sum.inr s1) = some (V.int (pos l s1)) := namK_val (hm _ h1)
  have g2 : valV (atK l) (Sum.inr s2) = some (V.int (pos l s2)) := namK_val (hm _ h2)
  refine ⟨et_test (ev_op (ev_dget (ev_var rfl) (e1 _ _ hd) (ev_str (ed_var rfl r2)) g2) (ev_op (ev_dget (ev_var rfl) (e1 _ _ hd) (ev_str (ed_var rfl r1)) g1) ev_c rv_I0) (rv_eq rfl)), fun _ => ?_⟩
  exact ed_tup (eds_cons (ed_var rfl r1) (eds_cons (ed_var rfl r2) eds_nil)) (by show 2 ≤ 100000; decide)
end PR
end
section
set_option Elab.async false
set_option linter.all false
set_option maxRecDepth 100000
set_option maxHeartbeats 4000000
/-! The class Order. -/
namespace PR
open PySem PySem.Spec PyProof.Rows L2 Evl
/-! ### equality of data -/
theorem name_strOk {x : Str} (h : nameOk x = true) : PyData.strOk x = true := by
  unfold nameOk at h
  rw [Bool.and_eq_true] at h
  have hl : lettersS.cps.toList.all (fun c => decide (c < 1000)) = true := by decide +kernel
  unfold PyData.strOk
  rw [← Array.all_toList]
  refine List.all_eq_true.mpr fun c hc => ?_
  have h1 := of_decide_eq_true (List.all_eq_true.mp h.2 c hc)
  have h2 := of_decide_eq_true (List.all_eq_true.mp hl c h1)
  exact decide_eq_true (by omega)
theorem shaped_strs (ss : List Str) (hn : ∀ s ∈ ss, nameOk s = true) : SeqAt.shaped (.list (ss.map PyData.str)) = true ∧ SeqAt.shaped (tS ss) = true := by
  have h1 : ∀ ss : List Str, (∀ s ∈ ss, nameOk s = true) → PyData.canLayAll0 (ss.map PyData.str) = true := fun ss => by
    induction ss with
    | nil => exact fun _ => rfl
    | cons s r ih =>
      intro hn
      show PyData.canLayAll0 (.str s :: r.map PyData.str) = true
      simp only [PyData.canLayAll0, PyData.canLay0, ih fun t ht => hn t (List.mem_cons_of_mem _ ht), name_strOk (hn s List.mem_cons_self), Bool.and_true]
  have h2 : ∀ ss : List Str, PyData.depthAll (ss.map PyData.str) = 0 := fun ss => by
    induction ss with
    | nil => rfl
    | cons s r ih =>
      show PyData.depthAll (.str s :: r.map PyData.str) = 0
      simp only [PyData.depthAll, PyData.depth, ih, Nat.max_self]
  constructor
  · unfold SeqAt.shaped
    simp [PyData.canLay0, PyData.depth, h1 ss hn, h2]
  · unfold SeqAt.shaped
    simp [PyData.canLay0, PyData.depth, h1 ss hn, h2]
theorem shaped_ints (ns : List Int) : SeqAt.shaped (.list (ns.map PyData.int)) = true ∧ SeqAt.shaped (tI ns) = true := by
  have h1 : ∀ ss : List Int, PyData.canLayAll0 (ss.map PyData.int) = true := fun ss => by
    induction ss with
    | nil => rfl
    | cons s r ih =>
      show PyData.canLayAll0 (.int s :: r.map PyData.int) = true
      simp only [PyData.canLayAll0, PyData.canLay0, ih, Bool.and_true]
  have h2 : ∀ ss : List Int, PyData.depthAll (ss.map PyData.int) = 0 := fun ss => by
    induction ss with
    | nil => rfl
    | cons s r ih =>
      show PyData.depthAll (.int s :: r.map PyData.int) = 0
      simp only [PyData.depthAll, PyData.depth, ih, Nat.max_self]
  constructor
  · unfold SeqAt.shaped
    simp [PyData.canLay0, PyData.depth, h1, h2]
  · unfold SeqAt.shaped
    simp [PyData.canLay0, PyData.depth, h1, h2]
theorem eqvAll_ints : ∀ a b : List Int, PyData.eqvAll (a.map PyData.int) (b.map PyData.int) = decide (a = b)
  | [], [] => rfl
  | [], _ :: _ => rfl
  | _ :: _, [] => rfl
  | x :: a, y :: b => by
    show PyData.eqvAll (.int x :: a.map PyData.int) (.int y :: b.map PyData.int) = _
    rw [PyData.eqvAll, eqvAll_ints a b, PyData.eqv, Bool.eq_iff_iff]
    simp
theorem eqv_ints (a b : List Int) : PyData.eqv (tI a) (tI b) = decide (a = b) := by
  unfold tI
  rw [PyData.eqv]
  exact eqvAll_ints a b
theorem eqvL_ints (a b : List Int) : PyData.eqv (.list (a.map PyData.int)) (.list (b.map PyData.int)) = decide (a = b) := by
  rw [PyData.eqv]
  exact eqvAll_ints a b
/-! ### two arrangements of the same names are sorted alike -/
theorem perm_sorted_eq {α : Type} {r : α → α → Prop} (anti : ∀ a b, r a b → r b a → a = b) : ∀ {xs ys : List α}, xs.Perm ys → xs.Pairwise r → ys.Pairwise r → xs = ys
  | [], ys, h, _, _ => (List.nil_perm.mp h).symm
  | x :: xs, [], h, _, _ => by cases List.perm_nil.mp h
  | x :: xs, y :: ys, h, h1, h2 => by
    obtain ⟨a1, a2⟩ := List.pairwise_cons.mp h1
    obtain ⟨b1, b2⟩ := List.pairwise_cons.mp h2
    have e : x = y := by
      rcases List.mem_cons.mp (h.mem_iff.mp List.mem_cons_self) with z | z
      · exact z
      · rcases List.mem_cons.mp (h.mem_iff.mpr List.mem_cons_self) with z2 | z2
        · exact z2.symm
        · exact anti _ _ (a1 _ z2) (b1 _ z)
    subst e
    rw [perm_sorted_eq anti (List.Perm.cons_inv h) a2 b2]
theorem str_le_total (a b : List Nat) : (decide (a ≤ b) || decide (b ≤ a)) = true := by
  rcases List.le_total a b with h | h
  · rw [decide_eq_true h] <;> rfl
  · rw [decide_eq_true h, Bool.or_true]
theorem sortS_perm {a b : List Str} (h : a.Perm b) : sortS a = sortS b := by
  have tr : ∀ x y z : Str, decide (x.cps.toList ≤ y.cps.toList) = true → decide (y.cps.toList ≤ z.cps.toList) = true → decide (x.cps.toList ≤ z.cps.toList) = true := fun x y z h1 h2 =>
    decide_eq_true (List.le_trans (of_decide_eq_true h1) (of_decide_eq_true h2))
  have to : ∀ x y : Str, (decide (x.cps.toList ≤ y.cps.toList) || decide (y.cps.toList ≤ x.cps.toList)) = true := fun x y => str_le_total _ _
  refine perm_sorted_eq (r := fun x y : Str => decide (x.cps.toList ≤ y.cps.toList) = true) (fun x y h1 h2 => ?_) (((List.mergeSort_perm a _).trans h).trans (List.mergeSort_perm b _).symm) (List.pairwise_mergeSort tr to a) (List.pairwise_mergeSort tr to b)
  have e := List.le_antisymm (of_decide_eq_true h1) (of_decide_eq_true h2)
  cases x
  cases y
  exact congrArg Str.mk (Array.toList_inj.mp e)
theorem int_le_total (a b : Int) : (decide (a ≤ b) || decide (b ≤ a)) = true := by
  rcases Int.le_total a b with h | h
  · rw [decide_eq_true h] <;> rfl
  · rw [decide_eq_true h, Bool.or_true]
theorem sortI_perm {a b : List Int} (h : a.Perm b) : sortI a = sortI b := by
  have tr : ∀ x y z : Int, decide (x ≤ y) = true → decide (y ≤ z) = true → decide (x ≤ z) = true := fun x y z h1 h2 => decide_eq_true (Int.le_trans (of_decide_eq_true h1) (of_decide_eq_true h2))
  refine perm_sorted_eq (r := fun x y : Int => decide (x ≤ y) = true) (fun x y h1 h2 => Int.le_antisymm (of_decide_eq_true h1) (of_decide_eq_true h2)) (((List.mergeSort_perm a _).trans h).trans (List.mergeSort_perm b _).symm) (List.pairwise_mergeSort tr int_le_total a) (List.pairwise_mergeSort tr int_le_total b)
/-! ### joined texts -/
theorem joinL_len (S : List Nat) : ∀ ps : List (List Nat), (TL.joinL S ps).length ≤ (ps.map List.length).sum + ps.length * S.length
  | [] => Nat.zero_le _
  | [p] => by simp [TL.joinL]
  | p :: q :: r => by
    have h := joinL_len S (q :: r)
    show (p ++ (S ++ TL.joinL S (q :: r))).length ≤ _
    rw [List.length_append, List.length_append, List.map_cons, List.sum_cons, List.length_cons, Nat.succ_mul]
    omega
theorem join_len (y : Str) (ps : List Str) : (Txt.join y ps).length ≤ (ps.map (·.length)).sum + ps.length * y.length := by
  have e : (Txt.join y ps).length = (TL.joinL (TL.tl y) (ps.map TL.tl)).length := by
    rw [TL.join_eq, ← TL.tl_join]
    simp [TL.tl, Str.length]
  rw [e]
  refine Nat.le_trans (joinL_len _ _) ?_
  rw [List.map_map, List.length_map]
  have e1 : (List.map (List.length ∘ TL.tl) ps) = ps.map (·.length) := List.map_congr_left fun p _ => by simp [TL.tl, Str.length]
  rw [e1]
  simp [TL.tl, Str.length]
section
variable {K : PySem.W.Frag} {σ : L2.St} {H : Hp} {ta tb : TE}
def rJoin (K : PySem.W.Frag) : V → List V → Hp → VK → Prop := fun x xs H Q => ∃ a p, ∃ ys : List Str, x = .str a ∧ xs = [.ref p] ∧ (SqL K H p (ys.map V.str) ∨ SqT K H p (ys.map V.str)) ∧ (ys.map (·.length)).sum + ys.length * a.length ≤ 16777216 ∧ Q (.str (Txt.join a ys)) H
theorem ev_joinT {a : Str} {ys : List Str} (h1 : Ev ta σ H (.str a)) (h2 : Ed K tb σ H (tS ys)) (hz : (ys.map (·.length)).sum + ys.length * a.length ≤ 16777216) : Ev (tM1 (rJoin K) ta tb) σ H (.str (Txt.join a ys)) := fun H1 e Q q =>
  h1 H1 e _ fun H2 e2 => ⟨⟨a, rfl⟩, h2 H2 (e.trans e2) _ fun v H3 e3 r => by
    obtain ⟨p, rfl, hs⟩ := rp_tstrs r
    exact ⟨a, p, ys, rfl, rfl, .inr hs, hz, q H3 (e2.trans e3)⟩⟩
def rAddS : R2 := fun x y H Q => ∃ i j, x = .str i ∧ y = .str j ∧ i.length + j.length ≤ sizeLine ∧ Q (.str (i ++ j)) H
theorem rv_addS {i j : Str} (h : i.length + j.length ≤ 1000000) : RV rAddS (.str i) (.str j) H (.str (i ++ j)) := fun H1 e Q q => ⟨i, j, rfl, rfl, Nat.le_trans h (by decide), q H1 (Ex.refl _)⟩
end
theorem str_app_len (a b : Str) : (a ++ b).length = a.length + b.length := by
  show (a.cps ++ b.cps).size = _
  rw [Array.size_append]
  rfl
theorem names_len {ss : List Str} (h : ∀ s ∈ ss, nameOk s = true) : (ss.map (·.length)).sum ≤ ss.length * 8 := by
  induction ss with
  | nil => exact Nat.zero_le _
  | cons s r ih =>
    have h1 := h s List.mem_cons_self
    unfold nameOk at h1
    rw [Bool.and_eq_true, Bool.and_eq_true] at h1
    have h2 := of_decide_eq_true h1.1.2
    have h3 := ih fun t ht => h t (List.mem_cons_of_mem _ ht)
    rw [List.map_cons, List.sum_cons, List.length_cons, Nat.succ_mul]
    omega
/-! ### the object -/
structure RowsOk (u l : List Str) : Prop where
  up : RowOk u
  many : u.length ≤ 6
  pm : l.Perm u
theorem RowsOk.low {u l : List Str} (h : RowsOk u l) : RowOk l :=
  ⟨by rw [h.pm.length_eq]; exact h.up.len1, by rw [h.pm.length_eq]; exact h.up.len2, h.pm.nodup_iff.mpr h.up.nd, fun s hs => h.up.ok s (h.pm.mem_iff.mp hs)⟩
def plc (u l : List Str) : List Int := u.map (pos l)
def ordWhole (u l : List Str) : Bool := decide ((1 : Int) < u.length) && decide (V.int ((bends (plc u l)).length : Int) = V.int 1)
/-- the order of these rows stands at a -/
def IsOrd (K : PySem.W.Frag) (H : Hp) (a : Addr) (u l : List Str) : Prop :=
  RowsOk u l ∧ ∃ dx vs vu vl vp du dl, SlX.Slt H a (He.ga K "Order") dx vs ∧ (vs[0]? = some (some (.bl (ordWhole u l))) ∧ vs[1]? = some (some vl) ∧ vs[2]? = some (some (.ref dl)) ∧ vs[5]? = some (some vp) ∧ vs[7]? = some (some vu) ∧ vs[8]? = some (some (.ref du))) ∧
    Rp K H vu (tS u) ∧ Rp K H vl (tS l) ∧ XT H vp (plc u l) ∧ H du = some (.dK (atK u)) ∧ H dl = some (.dK (atK l))
theorem slt_ex {H H' : Hp} {a C dx : Addr} {vs : List (Option V)} (e : Ex H H') (h : SlX.Slt H a C dx vs) : SlX.Slt H' a C dx vs := by
  rcases h with ⟨h1, h2⟩ | ⟨h1, h2⟩
  · exact .inl ⟨e _ _ h1, h2⟩
  · exact .inr ⟨e _ _ h1, e _ _ h2⟩
theorem IsOrd.ex {K : PySem.W.Frag} {H H' : Hp} {a : Addr} {u l : List Str} (h : IsOrd K H a u l) (e : Ex H H') : IsOrd K H' a u l := by
  obtain ⟨ok, dx, vs, vu, vl, vp, du, dl, h1, h2, h3, h4, h5, h6, h7⟩ := h
  exact ⟨ok, dx, vs, vu, vl, vp, du, dl, slt_ex e h1, h2, h3.ex e, h4.ex e, h5.ex e, e _ _ h6, e _ _ h7⟩
theorem IsOrd.ok {K : PySem.W.Frag} {H : Hp} {a : Addr} {u l : List Str} (h : IsOrd K H a u l) : RowsOk u l := h.1
/-- a slot store within the making: Sl and what it leaves -/
def Sl (H : Hp) (a C dx : Addr) (vs : List (Option V)) : Prop := SlX.Slt H a C dx vs ∧ (H dx = some (.own a) ∨ H dx = some (.xd [])) ∧ dx ≠ a
def Kx (a dx : Addr) (H H' : Hp) : Prop := ∀ b o, b ≠ a → b ≠ dx → H b = some o → H' b = some o
theorem Kx.refl {a dx : Addr} (H : Hp) : Kx a dx H H := fun _ _ _ _ h => h
theorem Kx.trans {a dx : Addr} {H H1 H2 : Hp} (k : Kx a dx H H1) (k' : Kx a dx H1 H2) : Kx a dx H H2 := fun b o h1 h2 h => k' b o h1 h2 (k b o h1 h2 h)
theorem Kx.ex {a dx : Addr} {H H1 : Hp} (e : Ex H H1) : Kx a dx H H1 := fun b o _ _ h => e b o h
theorem Kx.sl {a dx C : Addr} {H : Hp} {vs : List (Option V)} : Kx a dx H (SlX.slH H a C dx vs) := fun b o h1 h2 h => by rw [SlX.slH_ne h1 h2]; exact h
theorem Sl.ex {H H' : Hp} {a C dx : Addr} {vs : List (Option V)} (h : Sl H a C dx vs) (e : Ex H H') : Sl H' a C dx vs := ⟨slt_ex e h.1, h.2.1.elim (fun z => .inl (e _ _ z)) fun z => .inr (e _ _ z), h.2.2⟩
theorem Sl.put {H : Hp} {a C dx : Addr} {vs vs' : List (Option V)} (h : Sl H a C dx vs) : Sl (SlX.slH H a C dx vs') a C dx vs' := ⟨SlX.slH_slt h.2.2, .inr (by unfold SlX.slH; rw [upd_ne h.2.2, upd_same]), h.2.2⟩
theorem Sl.ata {H : Hp} {a C dx : Addr} {vs : List (Option V)} (h : Sl H a C dx vs) : ∃ o, H a = some o ∧ (∀ xs, o ≠ .tup xs) ∧ (∀ w u, o ≠ .frz w u) ∧ (∀ xs, o ≠ .lst xs) ∧ ∀ xs, o ≠ .dK xs := by
  rcases h.1 with ⟨h1, _⟩ | ⟨h1, _⟩
  · exact ⟨_, h1, fun _ z => (nomatch z), fun _ _ z => (nomatch z), fun _ z => (nomatch z), fun _ z => (nomatch z)⟩
  · refine ⟨_, h1, fun _ z => ?_, fun _ _ z => ?_, fun _ z => ?_, fun _ z => ?_⟩ <;> (unfold SlX.SlO at z; cases z)
theorem Sl.atd {H : Hp} {a C dx : Addr} {vs : List (Option V)} (h : Sl H a C dx vs) : ∃ o, H dx = some o ∧ (∀ xs, o ≠ .tup xs) ∧ (∀ w u, o ≠ .frz w u) ∧ (∀ xs, o ≠ .lst xs) ∧ ∀ xs, o ≠ .dK xs := by
  rcases h.2.1 with h1 | h1
  · exact ⟨_, h1, fun _ z => (nomatch z), fun _ _ z => (nomatch z), fun _ z => (nomatch z), fun _ z => (nomatch z)⟩
  · exact ⟨_, h1, fun _ z => (nomatch z), fun _ _ z => (nomatch z), fun _ z => (nomatch z), fun _ z => (nomatch z)⟩
theorem Sl.tex {H H' : Hp} {a C dx : Addr} {vs : List (Option V)} (h : Sl H a C dx vs) (k : Kx a dx H H') : TEx H H' := by
  obtain ⟨oa, ha, a1, a2, _⟩ := h.ata
  obtain ⟨od, hd, d1, d2, _⟩ := h.atd
  have fz : ∀ b w u, H b = some (.frz w u) → b ≠ a ∧ b ≠ dx := fun b w u r => ⟨by rintro rfl; rw [ha] at r; exact a2 _ _ (Option.some.inj r), by rintro rfl; rw [hd] at r; exact d2 _ _ (Option.some.inj r)⟩
  refine ⟨fun b xs r => ?_, fun b w u r => k _ _ (fz b w u r).1 (fz b w u r).2 r⟩
  rcases r with r | ⟨w, r⟩
  · exact .inl (k _ _ (by rintro rfl; rw [ha] at r; exact a1 _ (Option.some.inj r)) (by rintro rfl; rw [hd] at r; exact d1 _ (Option.some.inj r)) r)
  · exact .inr ⟨w, k _ _ (fz b _ _ r).1 (fz b _ _ r).2 r⟩
theorem Sl.dk {H H' : Hp} {a C dx p : Addr} {vs : List (Option V)} {kvs : List (Key × V)} (h : Sl H a C dx vs) (k : Kx a dx H H') (hp : H p = some (.dK kvs)) : H' p = some (.dK kvs) := by
  obtain ⟨oa, ha, _, _, _, a1⟩ := h.ata
  obtain ⟨od, hd, _, _, _, d1⟩ := h.atd
  refine k _ _ ?_ ?_ hp
  · rintro rfl; rw [ha] at hp; exact a1 _ (Option.some.inj hp)
  · rintro rfl; rw [hd] at hp; exact d1 _ (Option.some.inj hp)
theorem W0.sl {K : PySem.W.Frag} {mg : Str → Option Value} {base : Heap} (W : W0 K mg base) (i : Nat) {p : Str × Str × Nat} (h : slotsO[i]? = some p) : SlX.Slot1 K (He.ga K p.1) p.2.1 (He.ma K (He.ga K p.1) p.2.1) p.2.2 := W.slt p (List.mem_of_getElem? h)
theorem W0.sc {K : PySem.W.Frag} {mg : Str → Option Value} {base : Heap} (W : W0 K mg base) (i : Nat) {c : Str} (h : clsO[i]? = some c) : SlX.SCls K (He.ga K c) := W.scl c (List.mem_of_getElem? h)
section
variable {K : PySem.W.Frag} {σ : L2.St} {H : Hp} {ta tv : TE} {d : PyData} {tz : TS} {D : Ends} {a C dx p : Addr} {f : Str} {i : Nat} {vs : List (Option V)} {v : V} {kvs : List (Key × V)}
theorem ev_slot (ha : Ev ta σ H (.ref a)) (hs : SlX.Slt H a C dx vs) (c : SlX.SCls K C) (t : SlX.Slot1 K C f p i) (l : vs[i]? = some (some v)) : Ev (SlX.tSl K ta f) σ H v := fun H1 e Q q =>
  ha H1 e _ fun H2 e2 => ⟨a, C, dx, p, vs, i, v, rfl, slt_ex (e.trans e2) hs, c, t, l, q H2 e2⟩
theorem ed_slot (ha : Ev ta σ H (.ref a)) (hs : SlX.Slt H a C dx vs) (c : SlX.SCls K C) (t : SlX.Slot1 K C f p i) (l : vs[i]? = some (some v)) (r : Rp K H v d) : Ed K (SlX.tSl K ta f) σ H d := fun H1 e Q q =>
  ha H1 e _ fun H2 e2 => ⟨a, C, dx, p, vs, i, v, rfl, slt_ex (e.trans e2) hs, c, t, l, q v H2 e2 (r.ex (e.trans e2))⟩
theorem q_slD (h : Ed K tv σ H d) (ha : Ev ta σ H (.ref a)) (hs : Sl H a C dx vs) (c : SlX.SCls K C) (t : SlX.Slot1 K C f p i) (k : ∀ v H', Kx a dx H H' → Sl H' a C dx (SlX.putS i v vs) → Rp K H' v d → tz D σ H') : tSeq (SlX.sSl K ta tv f) tz D σ H :=
  h H (Ex.refl _) _ fun v H1 e1 r => ha H1 e1 _ fun H2 e2 => ⟨a, C, dx, p, vs, i, rfl, slt_ex (e1.trans e2) hs.1, c, t, k v _ ((Kx.ex (e1.trans e2)).trans Kx.sl) (hs.ex (e1.trans e2)).put ((r.ex e2).up ((hs.ex (e1.trans e2)).tex Kx.sl))⟩
theorem s_slD (h : Ed K tv σ H d) (ha : Ev ta σ H (.ref a)) (hs : Sl H a C dx vs) (c : SlX.SCls K C) (t : SlX.Slot1 K C f p i) (k : ∀ v H', Kx a dx H H' → Sl H' a C dx (SlX.putS i v vs) → Rp K H' v d → D.nx σ H') : SlX.sSl K ta tv f D σ H :=
  h H (Ex.refl _) _ fun v H1 e1 r => ha H1 e1 _ fun H2 e2 => ⟨a, C, dx, p, vs, i, rfl, slt_ex (e1.trans e2) hs.1, c, t, k v _ ((Kx.ex (e1.trans e2)).trans Kx.sl) (hs.ex (e1.trans e2)).put ((r.ex e2).up ((hs.ex (e1.trans e2)).tex Kx.sl))⟩
theorem q_slK (h : EvK tv σ H kvs) (ha : Ev ta σ H (.ref a)) (hs : Sl H a C dx vs) (c : SlX.SCls K C) (t : SlX.Slot1 K C f p i) (k : ∀ q H', Kx a dx H H' → Sl H' a C dx (SlX.putS i (.ref q) vs) → H' q = some (.dK kvs) → tz D σ H') : tSeq (SlX.sSl K ta tv f) tz D σ H :=
  h H (Ex.refl _) _ fun q H1 _ e1 hq => ha H1 e1 _ fun H2 e2 => ⟨a, C, dx, p, vs, i, rfl, slt_ex (e1.trans e2) hs.1, c, t, k q _ ((Kx.ex (e1.trans e2)).trans Kx.sl) (hs.ex (e1.trans e2)).put ((hs.ex (e1.trans e2)).dk Kx.sl (e2 _ _ hq))⟩
theorem q_slX {ns : List Int} (h : EdX tv σ H ns) (ha : Ev ta σ H (.ref a)) (hs : Sl H a C dx vs) (c : SlX.SCls K C) (t : SlX.Slot1 K C f p i) (k : ∀ v H', Kx a dx H H' → Sl H' a C dx (SlX.putS i v vs) → XT H' v ns → tz D σ H') : tSeq (SlX.sSl K ta tv f) tz D σ H :=
  h H (Ex.refl _) _ fun v H1 e1 r => ha H1 e1 _ fun H2 e2 => ⟨a, C, dx, p, vs, i, rfl, slt_ex (e1.trans e2) hs.1, c, t, k v _ ((Kx.ex (e1.trans e2)).trans Kx.sl) (hs.ex (e1.trans e2)).put ((r.ex e2).up ((hs.ex (e1.trans e2)).tex Kx.sl))⟩
/-- any value -/
theorem q_slA (h : ∀ H1, Ex H H1 → ∀ Q : VK, (∀ v H2, Ex H1 H2 → Q v H2) → tv σ H1 Q) (ha : Ev ta σ H (.ref a)) (hs : Sl H a C dx vs) (c : SlX.SCls K C) (t : SlX.Slot1 K C f p i) (k : ∀ v H', Kx a dx H H' → Sl H' a C dx (SlX.putS i v vs) → tz D σ H') : tSeq (SlX.sSl K ta tv f) tz D σ H :=
  h H (Ex.refl _) _ fun v H1 e1 => ha H1 e1 _ fun H2 e2 => ⟨a, C, dx, p, vs, i, rfl, slt_ex (e1.trans e2) hs.1, c, t, k v _ ((Kx.ex (e1.trans e2)).trans Kx.sl) (hs.ex (e1.trans e2)).put⟩
end
/-- {name: g(at) for at, name in enumerate(row)} -/
theorem evK_enum {K : PySem.W.Frag} {σ : L2.St} {H : Hp} {tr : TA} {tv : TE} {ss : List Str} {j k : Nat} {ws : List Nat} {g : Nat → V} (h : Eds K tr σ H [tS ss]) (nd : ss.Nodup) (hz : ss.length ≤ 1000) (hw : ∀ x y, wipe (((wipe σ ws).set j (some x)).set k (some y)) ws = wipe σ ws)
    (hk : ∀ x y, (((wipe σ ws).set j (some x)).set k (some y))[k]? = some (some y)) (hv : ∀ (i : Nat) (x : Str) H1, Ev tv (((wipe σ ws).set j (some (.int (i : Nat)))).set k (some (.str x))) H1 (g i)) :
    EvK (tDc (iEnumT K tr) (gTup K 2 (gCons (gName j) (gCons (gName k) gNil))) tYes (tVar k) tv ws) σ H (namK ss g) := by
  have z := evK_map2 (K := K) (σ := σ) (H := H) (j := j) (k := k) (ws := ws) (tk := tVar k) (tv := tv) keyE (valE g) (edI_enT h) (fun _ _ => exT) (by rw [enD_len, List.length_map]; omega) hw enD_pairs (fun x y v w' H1 e1 hm r1 r2 => by
    obtain ⟨i, hi, rfl, rfl⟩ := mem_enS hm
    cases r1
    cases r2
    refine ⟨ev_var (hk _ _), ?_⟩
    show Ev tv _ H1 (g (i : Int).toNat)
    rw [Int.toNat_natCast]
    exact hv i _ H1)
  rw [dc_enum nd] at z
  exact z
/-- len of what a promise hands back as a list -/
theorem ev_len1 {K : PySem.W.Frag} {σ : L2.St} {H : Hp} {te : TE} {vs : List V} (h : EvL te σ H vs) : Ev (tCB (rLenS K) (tCons te tNil)) σ H (.int (vs.length : Int)) := ev_lenN h
theorem call_any {σ : L2.St} {H : Hp} {sp : Sp} {ta : TA} {vs : List V} (h : EvA ta σ H vs) (hs : ∀ H1, Ex H H1 → ∀ Q : VK, (∀ v H2, Ex H1 H2 → Q v H2) → sp vs H1 Q E0) : ∀ H1, Ex H H1 → ∀ Q : VK, (∀ v H2, Ex H1 H2 → Q v H2) → tCall sp [] E0 ta σ H1 Q := fun H1 e Q q =>
  h H1 e _ fun H2 e2 => by
    show sp (vs ++ []) H2 Q E0
    rw [List.append_nil]
    exact hs H2 (e.trans e2) Q fun v H3 e3 => q v H3 (e2.trans e3)
def spInit (K : PySem.W.Frag) : Sp := fun vs H Q _ => ∃ a dx vu vl u l, vs = [.ref a, vu, vl] ∧ Sl H a (He.ga K "Order") dx [] ∧ Rp K H vu (tS u) ∧ Rp K H vl (tS l) ∧ RowsOk u l ∧ ∀ H', Kx a dx H H' → IsOrd K H' a u l → Q .non H'
theorem sc_Order___init__ : FnScope ["self", "upper", "lower", "index", "name"] ["self", "upper", "lower"] (defScope (mF "Order" "__init__" "Order.__init__" 22 1).st) := ⟨rfl, rfl, rfl, by decide +kernel, rfl, by decide +kernel, by decide +kernel⟩
theorem c_Order___init__ {P : Program} {w : World} {K : PySem.W.Frag} {mg : Str → Option Value} {base : Heap} (W : W0 K mg base) : Cal P w K mg base 3 (mF "Order" "__init__" "Order.__init__" 22 1) ["self", "upper", "lower"] (spInit K) := by
  refine Cal.of W 7 rfl sc_Order___init__ (fun vs H Q E h => ?len) (fun _ _ _ _ _ _ us hl => match us, hl with | [_, _, _], _ => rfl) (fun cdv A outer s H vs Q E hr h => ?body)
  case len => obtain ⟨_, _, _, _, _, _, rfl, _⟩ := h; rfl
  have nd := sc_Order___init__.nd
  refine ⟨_, (pss_cons (ps_if (PW.pt (pw_or (pt_not (pt_val (k_cal K (c_is_row W) (hr.mono (by decide)) rfl (W.g 4 rfl) (pa_cons (pv 1) pa_nil)))) (pw_or (pt_not (pt_val (k_cal K (c_is_row W) (hr.mono (by decide)) rfl (W.g 4 rfl) (pa_cons (pv 2) pa_nil)))) (pw_or1 (pt_cmpR (k_neD K hr.units) (pe_callB (k_sort K rfl hr.units) rfl (W.f 8 rfl) bb_sorted (pa_cons (pv 1) pa_nil)) (pe_callB (k_sort K rfl hr.units) rfl (W.f 8 rfl) bb_sorted (pa_cons (pv 2) pa_nil)) (nomark _)))))) (pss_one ps_never) pss_nil)
      (pss_cons (SlX.ps_sl (pv 0) (pv 1))
      (pss_cons (SlX.ps_sl (pv 0) (pv 2))
      (pss_cons (SlX.ps_sl (pv 0) (pe_callTy (k_tuple K) rfl (W.f 2 rfl) bb_tuple (pa_cons (pe_callB (k_sort K rfl hr.units) rfl (W.f 8 rfl) bb_sorted (pa_cons (pv 1) pa_nil)) pa_nil)))
      (pss_cons (SlX.ps_sl (pv 0) (pe_dc (own := [("index", 3), ("name", 4)]) (g := (gTup K 2 (gCons (gName 3) (gCons (gName 4) gNil)))) (tt := tYes) rfl nd (pi_enumT rfl (W.f 9 rfl) (pa_cons (pv 1) pa_nil)) (blkOk_by (N := ["self", "upper", "lower", "index", "name"]) (sc := defScope (mF "Order" "__init__" "Order.__init__" 22 1).st) (by decide +kernel)) (fun _ _ _ _ _ => (pg_tup rfl (pgs_cons (pg_name (i := 3) nd rfl (by first | exact Or.inl rfl | exact Or.inr rfl)) (pgs_cons (pg_name (i := 4) nd rfl (by first | exact Or.inl rfl | exact Or.inr rfl)) pgs_nil)))) (fun _ _ _ _ _ => pts_nil) (fun _ _ _ _ _ => (pv 4)) (fun _ _ _ _ _ => (pv 3))))
      (pss_cons (SlX.ps_sl (pv 0) (pe_dc (own := [("index", 3), ("name", 4)]) (g := (gTup K 2 (gCons (gName 3) (gCons (gName 4) gNil)))) (tt := tYes) rfl nd (pi_enumT rfl (W.f 9 rfl) (pa_cons (pv 2) pa_nil)) (blkOk_by (N := ["self", "upper", "lower", "index", "name"]) (sc := defScope (mF "Order" "__init__" "Order.__init__" 22 1).st) (by decide +kernel)) (fun _ _ _ _ _ => (pg_tup rfl (pgs_cons (pg_name (i := 3) nd rfl (by first | exact Or.inl rfl | exact Or.inr rfl)) (pgs_cons (pg_name (i := 4) nd rfl (by first | exact Or.inl rfl | exact Or.inr rfl)) pgs_nil)))) (fun _ _ _ _ _ => pts_nil) (fun _ _ _ _ _ => (pv 4)) (fun _ _ _ _ _ => (pv 3))))
      (pss_cons (SlX.ps_sl (pv 0) (pe_callTy (k_tupX K) rfl (W.f 2 rfl) bb_tuple (pa_cons (pe_lc (own := [("name", 4)]) (g := (gName 4)) (tt := tYes) rfl nd (k_pi_tup K (pv 1)) (blkOk_by (N := ["self", "upper", "lower", "index", "name"]) (sc := defScope (mF "Order" "__init__" "Order.__init__" 22 1).st) (by decide +kernel)) (fun _ _ _ _ _ => (pg_name (i := 4) nd rfl (by first | exact Or.inl rfl | exact Or.inr rfl))) (fun _ _ _ _ _ => pts_nil) (fun _ _ _ _ _ => (pe_dget (hu_of hr) (k_sl K (pv 0)) (pv 4) (fun _ _ => rfl)))) pa_nil)))
      (pss_cons (SlX.ps_sl (pv 0) (pe_and (pe_cmpR op_gt (pe_callB (k_len K) rfl (W.f 0 rfl) bb_len (pa_cons (pv 1) pa_nil)) pe_int (nomark _)) (pe_one (pe_cmpR op_eq (pe_callB (k_len K) rfl (W.f 0 rfl) bb_len (pa_cons (k_cal K (c_block_ends W) (hr.mono (by decide)) rfl (W.g 5 rfl) (pa_cons (k_sl K (pv 0)) pa_nil)) pa_nil)) pe_int (nomark _)))))
      (pss_cons (SlX.ps_sl (pv 0) (k_cal K (c_needless_in W) (hr.mono (by decide)) rfl (W.g 6 rfl) (pa_cons (pv 1) (pa_cons (k_sl K (pv 0)) pa_nil))))
      (pss_one (SlX.ps_sl (pv 0) (pe_op op_add_str (pe_op op_add_str (pe_join pe_str (pv 1)) pe_str) (pe_join pe_str (pv 2)))))))))))))), ?_⟩
  obtain ⟨a, dx, vu, vl, u, l, rfl, hs, hu, hl, ok, q⟩ := h
  have zu : u.length ≤ 100 := by have := ok.many; omega
  have zl : l.length ≤ 100 := by rw [ok.pm.length_eq]; exact zu
  have mu : ∀ x ∈ u, x ∈ l := fun x hx => ok.pm.mem_iff.mpr hx
  have sC := W.sc 0 rfl
  have nS : ∀ s ∈ sortS u, nameOk s = true := fun s hs => ok.up.ok s ((List.mergeSort_perm u _).mem_iff.mp hs)
  have nL : ∀ s ∈ sortS l, nameOk s = true := fun s hs => ok.low.ok s ((List.mergeSort_perm l _).mem_iff.mp hs)
  have rowC : ∀ {H1 : Hp} {te : TE} {σ : L2.St} {ss : List Str}, Ed K te σ H1 (tS ss) → RowOk ss → Ev (tCall (spRow K) [] E0 (tCons te tNil)) σ H1 (.bl true) := fun h ho H2 e Q q =>
    h H2 e _ fun v H3 e3 r => ⟨v, _, rfl, r, ho, fun H4 e4 => q H4 (e3.trans e4)⟩
  refine q_when (b := false) (et_is (et_or (et_not (et_B (rowC (ed_var rfl hu) ok.up))) fun _ => et_or (et_not (et_B (rowC (ed_var rfl hl) ok.low))) fun _ => et_test (ev_neLL (edL_is (edL_sortT (ed_var rfl hu) (sortOk_strs (by omega))) (sortD_strs u)) (edL_is (edL_sortT (ed_var rfl hl) (sortOk_strs (by omega))) (sortD_strs l)) (shaped_strs _ nS).1 (shaped_strs _ nL).1
    (b := true) (by rw [← sortS_perm ok.pm]; exact SeqAt.eqv_refl _ (SeqAt.canLay_of_shaped (shaped_strs _ nL).1)))) rfl) (fun z => nomatch z) fun _ H1 e1 => ?_
  have hs1 := hs.ex e1
  -- own_upper
  refine q_slD (ed_var rfl (hu.ex e1)) (ev_var rfl) hs1 sC (W.sl 7 rfl) fun w7 H2 k2 hs2 r7 => ?_
  replace hs2 : Sl H2 a (He.ga K "Order") dx [none, none, none, none, none, none, none, some w7] := hs2
  have t2 := hs1.tex k2
  -- own_lower
  refine q_slD (ed_var rfl ((hl.ex e1).up t2)) (ev_var rfl) hs2 sC (W.sl 1 rfl) fun w1 H3 k3 hs3 r1 => ?_
  replace hs3 : Sl H3 a (He.ga K "Order") dx [none, some w1, none, none, none, none, none, some w7] := hs3
  have t3 := hs2.tex k3
  have hu3 := (((hu.ex e1).up t2).up t3)
  have hl3 := (((hl.ex e1).up t2).up t3)
  -- own_names
  refine q_slD (ed_tupL (edL_is (edL_sortT (ed_var rfl hu3) (sortOk_strs (by omega))) (sortD_strs u))) (ev_var rfl) hs3 sC (W.sl 3 rfl) fun w3 H4 k4 hs4 r3 => ?_
  replace hs4 : Sl H4 a (He.ga K "Order") dx [none, some w1, none, some w3, none, none, none, some w7] := hs4
  have t4 := hs3.tex k4
  -- own_upper_at
  refine q_slK (evK_enum (g := fun i => .int (i : Nat)) (eds_cons (ed_var rfl (hu3.up t4)) eds_nil) ok.up.nd (by omega) (fun _ _ => rfl) (fun _ _ => rfl) fun i x H5 => ev_var rfl) (ev_var rfl) hs4 sC (W.sl 8 rfl) fun du H5 k5 hs5 hdu => ?_
  replace hs5 : Sl H5 a (He.ga K "Order") dx [none, some w1, none, some w3, none, none, none, some w7, some (.ref du)] := hs5
  have t5 := hs4.tex k5
  have hl4 := hl3.up t4
  refine q_slK (evK_enum (g := fun i => .int (i : Nat)) (eds_cons (ed_var rfl (hl4.up t5)) eds_nil) ok.low.nd (by omega) (fun _ _ => rfl) (fun _ _ => rfl) fun i x H5 => ev_var rfl) (ev_var rfl) hs5 sC (W.sl 2 rfl) fun dl H6 k6 hs6 hdl => ?_
  replace hs6 : Sl H6 a (He.ga K "Order") dx [none, some w1, some (.ref dl), some w3, none, none, none, some w7, some (.ref du)] := hs6
  have t6 := hs5.tex k6
  have hu6 := ((hu3.up t4).up t5).up t6
  have hl6 := (hl4.up t5).up t6
  -- own_places
  refine q_slX (ns := plc u l) (edX_tup (edL_is (edL_map (fun d => match d with | .str x => .int (pos l x) | _ => .none) (edI_tup (ed_var rfl hu6)) (fun _ _ => exT) (by rw [List.length_map]; omega) (fun _ => rfl) fun d y H7 e7 hd r => ?_) ?_)) (ev_var rfl) hs6 sC (W.sl 5 rfl) fun vp H7 k7 hs7 rp => ?_
  · obtain ⟨x, hx, rfl⟩ := List.mem_map.mp hd
    cases r
    exact ed_int (ev_dget (ev_slot (ev_var rfl) (slt_ex e7 hs6.1) sC (W.sl 2 rfl) rfl) (e7 _ _ hdl) (ev_var rfl) (namK_val (mu x hx)))
  · show _ = (plc u l).map PyData.int
    unfold plc
    rw [List.map_map, List.map_map]
    rfl
  replace hs7 : Sl H7 a (He.ga K "Order") dx [none, some w1, some (.ref dl), some w3, none, some vp, none, some w7, some (.ref du)] := hs7
  have t7 := hs6.tex k7
  have hu7 := hu6.up t7
  have hl7 := hl6.up t7
  -- own_is_whole
  refine q_slD (d := .bool (ordWhole u l)) (ed_bl (ev_andV (ev_is (ev_op (ev_lenT (ed_var rfl hu7)) ev_c rv_I0) (by rw [List.length_map])) fun _ => ev_is (ev_op (ev_len1 (fun H8 e8 Q8 q8 => (ed_slot (ev_var rfl) hs7.1 sC (W.sl 5 rfl) rfl rp.rp) H8 e8 _ fun v8 H9 e9 r9 => ⟨v8, plc u l, rfl, r9, by unfold plc; rw [List.length_map]; omega, fun p H10 hp e10 hp10 => q8 p H10 (fresh_back e9 hp) (e9.trans e10) hp10⟩)) ev_c (rv_eq rfl)) (by rw [List.length_map]))) (ev_var rfl) hs7 sC (W.sl 0 rfl) fun vw H8 k8 hs8 rw8 => ?_
  replace hs8 : Sl H8 a (He.ga K "Order") dx [some vw, some w1, some (.ref dl), some w3, none, some vp, none, some w7, some (.ref du)] := hs8
  have t8 := hs7.tex k8
  have hdl8 := hs7.dk k8 (hs6.dk k7 hdl)
  -- own_needless
  refine q_slA (call_any (eva_cons (ev_var rfl) (eva_cons (ev_slot (ev_var rfl) hs8.1 sC (W.sl 2 rfl) rfl) eva_nil)) fun H9 e9 Q9 q9 => ⟨vu, dl, u, l, rfl, (hu7.up t8).ex e9, by omega, e9 _ _ hdl8, mu, fun v H' e => q9 v H' e⟩) (ev_var rfl) hs8 sC (W.sl 4 rfl) fun vn H9 k9 hs9 => ?_
  replace hs9 : Sl H9 a (He.ga K "Order") dx [some vw, some w1, some (.ref dl), some w3, some vn, some vp, none, some w7, some (.ref du)] := hs9
  have t9 := hs8.tex k9
  -- own_text
  refine s_slD (d := .str _) (ed_str (ev_op (ev_op (ev_joinT ev_c (ed_var rfl ((hu7.up t8).up t9)) ?_) ev_c (rv_addS ?_)) (ev_joinT ev_c (ed_var rfl ((hl7.up t8).up t9)) ?_) (rv_addS ?_))) (ev_var rfl) hs9 sC (W.sl 6 rfl) fun vt H10 k10 hs10 r10 => ?_
  · have := names_len ok.up.ok; have e1 : (" " : Str).length = 1 := by decide +kernel
    rw [e1]; omega
  · have h1 := join_len " " u; have h2 := names_len ok.up.ok; have e1 : (" " : Str).length = 1 := by decide +kernel
    have e2 : (" / " : Str).length = 3 := by decide +kernel
    rw [e1] at h1; rw [e2]; omega
  · have := names_len ok.low.ok; have e1 : (" " : Str).length = 1 := by decide +kernel
    rw [e1]; omega
  · have h1 := join_len " " u; have h2 := names_len ok.up.ok; have e1 : (" " : Str).length = 1 := by decide +kernel
    have h3 := join_len " " l; have h4 := names_len ok.low.ok
    have e2 : (" / " : Str).length = 3 := by decide +kernel
    rw [e1] at h1 h3; rw [str_app_len, e2]; omega
  replace hs10 : Sl H10 a (He.ga K "Order") dx [some vw, some w1, some (.ref dl), some w3, some vn, some vp, some vt, some w7, some (.ref du)] := hs10
  have t10 := hs9.tex k10
  have kk : Kx a dx H H10 := (Kx.ex e1).trans (k2.trans (k3.trans (k4.trans (k5.trans (k6.trans (k7.trans (k8.trans (k9.trans k10))))))))
  have tt : TEx H5 H10 := t6.trans (t7.trans (t8.trans (t9.trans t10)))
  have tt2 : TEx H2 H10 := t3.trans (t4.trans (t5.trans tt))
  refine q H10 kk ⟨ok, dx, _, w7, w1, vp, du, dl, hs10.1, ⟨?_, rfl, rfl, rfl, rfl, rfl⟩, r7.up tt2, r1.up (t4.trans (t5.trans tt)), rp.up (t8.trans (t9.trans t10)), hs9.dk k10 (hs8.dk k9 (hs7.dk k8 (hs6.dk k7 (hs5.dk k6 hdu)))), hs9.dk k10 (hs8.dk k9 hdl8)⟩
  cases rw8
  rfl
end PR
end
section
set_option Elab.async false
set_option linter.all false
set_option maxRecDepth 100000
set_option maxHeartbeats 4000000
/-! Orders read. -/
namespace PR
open PySem PySem.Spec PyProof.Rows L2 Evl
/-- of an order with pre: that data -/
def spO (K : PySem.W.Frag) (pre : List Str → List Str → Prop) (f : List Str → List Str → PyData) : Sp := fun vs H Q _ => ∃ a u l, vs = [.ref a] ∧ IsOrd K H a u l ∧ pre u l ∧ ∀ v H', Ex H H' → Rp K H' v (f u l) → Q v H'
abbrev anyO : List Str → List Str → Prop := fun _ _ => True
theorem spO_len {K : PySem.W.Frag} {pre : List Str → List Str → Prop} {f : List Str → List Str → PyData} {vs : List V} {H : Hp} {Q : VK} {E : XK} (h : spO K pre f vs H Q E) : vs.length = 1 := by
  obtain ⟨_, _, _, rfl, _⟩ := h
  rfl
section
variable {K : PySem.W.Frag} {σ : L2.St} {H : Hp} {ta tb tc : TE} {a : Addr} {u l : List Str} {pre : List Str → List Str → Prop} {f : List Str → List Str → PyData}
theorem IsOrd.slt (h : IsOrd K H a u l) : ∃ dx vs, SlX.Slt H a (He.ga K "Order") dx vs := by
  obtain ⟨_, dx, vs, _, _, _, _, _, h1, _⟩ := h
  exact ⟨dx, vs, h1⟩
theorem ed_propO (ha : Ev ta σ H (.ref a)) (ho : IsOrd K H a u l) (hp : pre u l) : Ed K (SlX.tPropSl (He.ga K "Order") (spO K pre f) E0 ta) σ H (f u l) := fun H1 e Q q =>
  ha H1 e _ fun H2 e2 => by
    have ho2 := ho.ex (e.trans e2)
    obtain ⟨dx, vs, hs⟩ := ho2.slt
    exact ⟨a, dx, vs, rfl, hs, a, u, l, rfl, ho2, hp, fun v H3 e3 r => q v H3 (e2.trans e3) r⟩
theorem ed_callO (ha : Ev ta σ H (.ref a)) (ho : IsOrd K H a u l) (hp : pre u l) : Ed K (tCall (spO K pre f) [] E0 (tCons ta tNil)) σ H (f u l) := fun H1 e Q q =>
  ha H1 e _ fun H2 e2 => ⟨a, u, l, rfl, ho.ex (e.trans e2), hp, fun v H3 e3 r => q v H3 (e2.trans e3) r⟩
theorem ev_isiO {mg : Str → Option Value} {base : Heap} (W : W0 K mg base) (ha : Ev ta σ H (.ref a)) (hb : Ev tb σ H (.ref (He.ga K "Order"))) (ho : IsOrd K H a u l) : Ev (tCB (SlX.rIsiSl K (.ref (He.ga K "Order"))) (tCons ta (tCons tb tNil))) σ H (.bl true) := fun H1 e Q q =>
  ha H1 e _ fun H2 e2 => hb H2 (e.trans e2) _ fun H3 e3 => by
    obtain ⟨dx, vs, hs⟩ := (ho.ex ((e.trans e2).trans e3)).slt
    obtain ⟨h1, h2⟩ := W.isi "Order" (by simp [clsO])
    exact ⟨a, He.ga K "Order", dx, vs, .ref (He.ga K "Order"), true, rfl, rfl, fun w hw => hw, hs, W.sc 0 rfl, h1, h2, q H3 (e2.trans e3)⟩
end
theorem sc_Order_above : FnScope ["self"] ["self"] (defScope (pF "Order" "above" "Order.above" 22 3).st) := ⟨rfl, rfl, rfl, by decide +kernel, rfl, by decide +kernel, by decide +kernel⟩
theorem c_Order_above {P : Program} {w : World} {K : PySem.W.Frag} {mg : Str → Option Value} {base : Heap} (W : W0 K mg base) : Cal P w K mg base 1 (pF "Order" "above" "Order.above" 22 3) ["self"] (spO K anyO fun u _ => tS u) := by
  refine Cal.of W 8 rfl sc_Order_above (fun vs H Q E h => ?len) (fun _ _ _ _ _ _ us hl => match us, hl with | [_], _ => rfl) (fun cdv A outer s H vs Q E hr h => ?body)
  case len => exact spO_len h
  have nd := sc_Order_above.nd
  refine ⟨_, (pss_one (ps_ret (k_sl K (pv 0)))), ?_⟩
  obtain ⟨a, u, l, rfl, ho, _, q⟩ := h
  obtain ⟨ok, dx, vs, vu, vl, vp, du, dl, h1, ⟨s0, s1, s2, s5, s7, s8⟩, r7, r1, r5, h8, h2⟩ := ho
  exact s_retD (ed_slot (ev_var rfl) h1 (W.sc 0 rfl) (W.sl 7 rfl) s7 r7) q
theorem sc_Order_below : FnScope ["self"] ["self"] (defScope (pF "Order" "below" "Order.below" 22 4).st) := ⟨rfl, rfl, rfl, by decide +kernel, rfl, by decide +kernel, by decide +kernel⟩
theorem c_Order_below {P : Program} {w : World} {K : PySem.W.Frag} {mg : Str → Option Value} {base : Heap} (W : W0 K mg base) : Cal P w K mg base 1 (pF "Order" "below" "Order.below" 22 4) ["self"] (spO K anyO fun _ l => tS l) := by
  refine Cal.of W 9 rfl sc_Order_below (fun vs H Q E h => ?len) (fun _ _ _ _ _ _ us hl => match us, hl with | [_], _ => rfl) (fun cdv A outer s H vs Q E hr h => ?body)
  case len => exact spO_len h
  have nd := sc_Order_below.nd
  refine ⟨_, (pss_one (ps_ret (k_sl K (pv 0)))), ?_⟩
  obtain ⟨a, u, l, rfl, ho, _, q⟩ := h
  obtain ⟨ok, dx, vs, vu, vl, vp, du, dl, h1, ⟨s0, s1, s2, s5, s7, s8⟩, r7, r1, r5, h8, h2⟩ := ho
  exact s_retD (ed_slot (ev_var rfl) h1 (W.sc 0 rfl) (W.sl 1 rfl) s1 r1) q
/-- its places, known to the object -/
def spPl (K : PySem.W.Frag) : Sp := fun vs H Q _ => ∃ a u l, vs = [.ref a] ∧ IsOrd K H a u l ∧ ∀ v H', Ex H H' → XT H' v (plc u l) → Q v H'
theorem edX_propO {K : PySem.W.Frag} {σ : L2.St} {H : Hp} {ta : TE} {a : Addr} {u l : List Str} (ha : Ev ta σ H (.ref a)) (ho : IsOrd K H a u l) : EdX (SlX.tPropSl (He.ga K "Order") (spPl K) E0 ta) σ H (plc u l) := fun H1 e Q q =>
  ha H1 e _ fun H2 e2 => by
    have ho2 := ho.ex (e.trans e2)
    obtain ⟨dx, vs, hs⟩ := ho2.slt
    exact ⟨a, dx, vs, rfl, hs, a, u, l, rfl, ho2, fun v H3 e3 r => q v H3 (e2.trans e3) r⟩
theorem sc_Order_places : FnScope ["self"] ["self"] (defScope (pF "Order" "places" "Order.places" 22 7).st) := ⟨rfl, rfl, rfl, by decide +kernel, rfl, by decide +kernel, by decide +kernel⟩
theorem c_Order_places {P : Program} {w : World} {K : PySem.W.Frag} {mg : Str → Option Value} {base : Heap} (W : W0 K mg base) : Cal P w K mg base 1 (pF "Order" "places" "Order.places" 22 7) ["self"] (spPl K) := by
  refine Cal.of W 10 rfl sc_Order_places (fun vs H Q E h => ?len) (fun _ _ _ _ _ _ us hl => match us, hl with | [_], _ => rfl) (fun cdv A outer s H vs Q E hr h => ?body)
  case len => obtain ⟨_, _, _, rfl, _⟩ := h; rfl
  have nd := sc_Order_places.nd
  refine ⟨_, (pss_one (ps_ret (k_sl K (pv 0)))), ?_⟩
  obtain ⟨a, u, l, rfl, ho, q⟩ := h
  obtain ⟨ok, dx, vs, vu, vl, vp, du, dl, h1, ⟨s0, s1, s2, s5, s7, s8⟩, r7, r1, r5, h8, h2⟩ := ho
  exact (fun H1 e1 Q1 q1 => ev_slot (ev_var rfl) h1 (W.sc 0 rfl) (W.sl 5 rfl) s5 H1 e1 Q1 fun H2 e2 => q1 vp H2 e2 (r5.ex (e1.trans e2)) : EdX _ _ H (plc u l)) H (Ex.refl _) _ fun v H2 e2 r => q v H2 e2 r
theorem sc_Order___len__ : FnScope ["self"] ["self"] (defScope (mF "Order" "__len__" "Order.__len__" 22 16).st) := ⟨rfl, rfl, rfl, by decide +kernel, rfl, by decide +kernel, by decide +kernel⟩
theorem c_Order___len__ {P : Program} {w : World} {K : PySem.W.Frag} {mg : Str → Option Value} {base : Heap} (W : W0 K mg base) : Cal P w K mg base 1 (mF "Order" "__len__" "Order.__len__" 22 16) ["self"] (spO K anyO fun u _ => .int u.length) := by
  refine Cal.of W 12 rfl sc_Order___len__ (fun vs H Q E h => ?len) (fun _ _ _ _ _ _ us hl => match us, hl with | [_], _ => rfl) (fun cdv A outer s H vs Q E hr h => ?body)
  case len => exact spO_len h
  have nd := sc_Order___len__.nd
  refine ⟨_, (pss_one (ps_ret (pe_callB (k_len K) rfl (W.f 0 rfl) bb_len (pa_cons (k_sl K (pv 0)) pa_nil)))), ?_⟩
  obtain ⟨a, u, l, rfl, ho, _, q⟩ := h
  obtain ⟨ok, dx, vs, vu, vl, vp, du, dl, h1, ⟨s0, s1, s2, s5, s7, s8⟩, r7, r1, r5, h8, h2⟩ := ho
  exact s_retD (ed_int (ev_is (ev_lenT (ed_slot (ev_var rfl) h1 (W.sc 0 rfl) (W.sl 7 rfl) s7 r7)) (by rw [List.length_map]))) q
def spHas (K : PySem.W.Frag) : Sp := fun vs H Q _ => ∃ a u l x, vs = [.ref a, .str x] ∧ IsOrd K H a u l ∧ x ∈ u ∧ ∀ H', Ex H H' → Q (.bl true) H'
theorem sc_Order___contains__ : FnScope ["self", "value"] ["self", "value"] (defScope (mF "Order" "__contains__" "Order.__contains__" 22 17).st) := ⟨rfl, rfl, rfl, by decide +kernel, rfl, by decide +kernel, by decide +kernel⟩
theorem c_Order___contains__ {P : Program} {w : World} {K : PySem.W.Frag} {mg : Str → Option Value} {base : Heap} (W : W0 K mg base) : Cal P w K mg base 1 (mF "Order" "__contains__" "Order.__contains__" 22 17) ["self", "value"] (spHas K) := by
  refine Cal.of W 13 rfl sc_Order___contains__ (fun vs H Q E h => ?len) (fun _ _ _ _ _ _ us hl => match us, hl with | [_, _], _ => rfl) (fun cdv A outer s H vs Q E hr h => ?body)
  case len => obtain ⟨_, _, _, _, rfl, _⟩ := h; rfl
  have nd := sc_Order___contains__.nd
  refine ⟨_, (pss_one (ps_ret (pe_and (pe_callB (k_isi K) rfl (W.f 1 rfl) bb_isinstance (pa_cons (pv 1) (pa_cons (pe_bltn rfl (W.f 3 rfl) bb_str relTy) pa_nil))) (pe_one (pe_cmp (pc_din (hu_of hr) (pv 1) (k_sl K (pv 0))) (by with_unfolding_all rfl)))))), ?_⟩
  obtain ⟨a, u, l, x, rfl, ho, hx, q⟩ := h
  obtain ⟨ok, dx, vs, vu, vl, vp, du, dl, h1, ⟨s0, s1, s2, s5, s7, s8⟩, r7, r1, r5, h8, h2⟩ := ho
  exact s_ret (ev_andV (a := true) (b := true) (ev_isi .str (ed_var rfl (.str x)) ev_c rfl) fun _ => ev_din (k := Sum.inr x) (ev_var rfl) (ev_slot (ev_var rfl) h1 (W.sc 0 rfl) (W.sl 8 rfl) s8) h8 (by rw [namK_val hx] <;> rfl)) q
def spNamed (K : PySem.W.Frag) : Sp := fun vs H Q _ => ∃ a u l x, vs = [.ref a, .str x] ∧ IsOrd K H a u l ∧ x ∈ u ∧ ∀ H', Ex H H' → Q .non H'
theorem sc_require_name : FnScope ["order", "name"] ["order", "name"] (defScope (gF "require_name" 26).st) := ⟨rfl, rfl, rfl, by decide +kernel, rfl, by decide +kernel, by decide +kernel⟩
theorem c_require_name {P : Program} {w : World} {K : PySem.W.Frag} {mg : Str → Option Value} {base : Heap} (W : W0 K mg base) : Cal P w K mg base 2 (gF "require_name" 26) ["order", "name"] (spNamed K) := by
  refine Cal.of W 17 rfl sc_require_name (fun vs H Q E h => ?len) (fun _ _ _ _ _ _ us hl => match us, hl with | [_, _], _ => rfl) (fun cdv A outer s H vs Q E hr h => ?body)
  case len => obtain ⟨_, _, _, _, rfl, _⟩ := h; rfl
  have nd := sc_require_name.nd
  refine ⟨_, (pss_one (ps_if (pt_cmpR (op_notInO W 2 rfl (c_Order___contains__ W) (hr.mono (by decide))) (pv 1) (pv 0) (by with_unfolding_all rfl)) (pss_one ps_never) pss_nil)), ?_⟩
  obtain ⟨a, u, l, x, rfl, ho, hx, q⟩ := h
  refine s_when (b := false) (fun H1 e1 Q1 q1 => ⟨.str x, rfl, .ref a, rfl, ?_⟩) (fun z => nomatch z) fun _ H1 e1 => q H1 e1
  have ho1 := ho.ex e1
  obtain ⟨dx, vs, hs⟩ := ho1.slt
  exact ⟨a, dx, vs, rfl, hs, a, u, l, x, rfl, ho1, hx, fun H2 e2 => ⟨true, rfl, false, rfl, q1 H2 e2⟩⟩
def formI (u l : List Str) (x y : Str) : Int := if x = y then 0 else if decide (pos u x < pos u y) = decide (pos l x < pos l y) then 0 else if pos u x < pos u y then 1 else -1
def spForm (K : PySem.W.Frag) : Sp := fun vs H Q _ => ∃ a u l x y, vs = [.ref a, .str x, .str y] ∧ IsOrd K H a u l ∧ x ∈ u ∧ y ∈ u ∧ ∀ H', Ex H H' → Q (.int (formI u l x y)) H'
theorem sc_form_in : FnScope ["order", "one", "other", "is_ahead"] ["order", "one", "other"] (defScope (gF "form_in" 23).st) := ⟨rfl, rfl, rfl, by decide +kernel, rfl, by decide +kernel, by decide +kernel⟩
theorem c_form_in {P : Program} {w : World} {K : PySem.W.Frag} {mg : Str → Option Value} {base : Heap} (W : W0 K mg base) : Cal P w K mg base 1 (gF "form_in" 23) ["order", "one", "other"] (spForm K) := by
  refine Cal.of W 14 rfl sc_form_in (fun vs H Q E h => ?len) (fun _ _ _ _ _ _ us hl => match us, hl with | [_, _, _], _ => rfl) (fun cdv A outer s H vs Q E hr h => ?body)
  case len => obtain ⟨_, _, _, _, _, rfl, _⟩ := h; rfl
  have nd := sc_form_in.nd
  refine ⟨_, (pss_cons (ps_if (pt_cmpR op_eq (pv 1) (pv 2) (nomark _)) (pss_one (ps_ret pe_int)) pss_nil)
      (pss_cons (ps_set (i := 3) nd rfl (Or.inl rfl) (pe_cmpR op_lt (pe_dget (hu_of hr) (k_sl K (pv 0)) (pv 1) (fun _ _ => rfl)) (pe_dget (hu_of hr) (k_sl K (pv 0)) (pv 2) (fun _ _ => rfl)) (nomark _)))
      (pss_cons (ps_if (pt_cmpR op_eq (pv 3) (pe_cmpR op_lt (pe_dget (hu_of hr) (k_sl K (pv 0)) (pv 1) (fun _ _ => rfl)) (pe_dget (hu_of hr) (k_sl K (pv 0)) (pv 2) (fun _ _ => rfl)) (nomark _)) (nomark _)) (pss_one (ps_ret pe_int)) pss_nil)
      (pss_one (ps_ret (pe_ifExp (pt_val (pv 3)) pe_int (pe_un un_neg pe_int))))))), ?_⟩
  obtain ⟨a, u, l, x, y, rfl, ho, hx, hy, q⟩ := h
  have ho' := ho
  obtain ⟨ok, dx, vs, vu, vl, vp, du, dl, h1, ⟨s0, s1, s2, s5, s7, s8⟩, r7, r1, r5, h8, h2⟩ := ho'
  have sc := W.sc 0 rfl
  have ml : ∀ z ∈ u, z ∈ l := fun z hz => ok.pm.mem_iff.mpr hz
  unfold formI at q
  refine q_when (b := decide (x = y)) (et_is (et_test (ev_op (ev_var rfl) (ev_var rfl) (rv_eq rfl))) (by rw [dec_str, Bool.eq_iff_iff]; simp)) (fun hb H1 e1 => ?_) fun hb H1 e1 => ?_
  · rw [if_pos (of_decide_eq_true hb)] at q
    exact s_ret ev_c fun H2 e2 => q H2 (e1.trans e2)
  · rw [if_neg (of_decide_eq_false hb)] at q
    have gU : ∀ {z : Str} {te : TE} {σ : L2.St}, z ∈ u → Ev te σ H1 (.str z) → σ[0]? = some (some (.ref a)) → Ev (tDGet (SlX.tSl K (tVar 0) "own_upper_at") te) σ H1 (.int (pos u z)) := fun hz h hσ =>
      ev_dget (k := Sum.inr _) (ev_slot (ev_var hσ) (slt_ex e1 h1) sc (W.sl 8 rfl) s8) (e1 _ _ h8) h (namK_val hz)
    have gL : ∀ {z : Str} {te : TE} {σ : L2.St} {H2 : Hp}, Ex H1 H2 → z ∈ u → Ev te σ H2 (.str z) → σ[0]? = some (some (.ref a)) → Ev (tDGet (SlX.tSl K (tVar 0) "own_lower_at") te) σ H2 (.int (pos l z)) := fun e hz h hσ =>
      ev_dget (k := Sum.inr _) (ev_slot (ev_var hσ) (slt_ex (e1.trans e) h1) sc (W.sl 2 rfl) s2) ((e1.trans e) _ _ h2) h (namK_val (ml _ hz))
    refine q_asg (v := .bl (decide (pos u x < pos u y))) (ev_op (gU hx (ev_var rfl) rfl) (gU hy (ev_var rfl) rfl) rv_I0) fun H2 e2 => ?_
    refine q_when (b := decide (decide (pos u x < pos u y) = decide (pos l x < pos l y))) (et_is (et_test (ev_op (ev_var rfl) (ev_op (gL e2 hx (ev_var rfl) rfl) (gL e2 hy (ev_var rfl) rfl) rv_I0) (rv_eq rfl))) (by rw [dec_bl, Bool.eq_iff_iff]; simp)) (fun hc H3 e3 => ?_) fun hc H3 e3 => ?_
    · rw [if_pos (of_decide_eq_true hc)] at q
      exact s_ret ev_c fun H4 e4 => q H4 (((e1.trans e2).trans e3).trans e4)
    · rw [if_neg (of_decide_eq_false hc)] at q
      refine s_ret (ev_if (et_B (ev_var rfl)) (fun hd => ?_) fun hd => ?_) fun H4 e4 => q H4 (((e1.trans e2).trans e3).trans e4)
      · rw [if_pos (of_decide_eq_true hd)]
        exact ev_c
      · rw [if_neg (of_decide_eq_false hd)]
        exact ev_un ev_c ru_neg
theorem sc_Order_form : FnScope ["self", "one", "other"] ["self", "one", "other"] (defScope (mF "Order" "form" "Order.form" 22 13).st) := ⟨rfl, rfl, rfl, by decide +kernel, rfl, by decide +kernel, by decide +kernel⟩
theorem c_Order_form {P : Program} {w : World} {K : PySem.W.Frag} {mg : Str → Option Value} {base : Heap} (W : W0 K mg base) : Cal P w K mg base 3 (mF "Order" "form" "Order.form" 22 13) ["self", "one", "other"] (spForm K) := by
  refine Cal.of W 11 rfl sc_Order_form (fun vs H Q E h => ?len) (fun _ _ _ _ _ _ us hl => match us, hl with | [_, _, _], _ => rfl) (fun cdv A outer s H vs Q E hr h => ?body)
  case len => obtain ⟨_, _, _, _, _, rfl, _⟩ := h; rfl
  have nd := sc_Order_form.nd
  refine ⟨_, (pss_cons (ps_expr (k_cal K (c_require_name W) (hr.mono (by decide)) rfl (W.g 11 rfl) (pa_cons (pv 0) (pa_cons (pv 1) pa_nil))))
      (pss_cons (ps_expr (k_cal K (c_require_name W) (hr.mono (by decide)) rfl (W.g 11 rfl) (pa_cons (pv 0) (pa_cons (pv 2) pa_nil))))
      (pss_one (ps_ret (k_cal K (c_form_in W) (hr.mono (by decide)) rfl (W.g 8 rfl) (pa_cons (pv 0) (pa_cons (pv 1) (pa_cons (pv 2) pa_nil)))))))), ?_⟩
  obtain ⟨a, u, l, x, y, rfl, ho, hx, hy, q⟩ := h
  refine q_drop (v := .non) (fun H1 e1 Q1 q1 => ⟨.ref a, rfl, .str x, rfl, a, u, l, x, rfl, ho.ex e1, hx, fun H2 e2 => q1 H2 e2⟩) fun H1 e1 => ?_
  refine q_drop (v := .non) (fun H2 e2 Q1 q1 => ⟨.ref a, rfl, .str y, rfl, a, u, l, y, rfl, ho.ex (e1.trans e2), hy, fun H3 e3 => q1 H3 e3⟩) fun H2 e2 => ?_
  exact s_ret (v := .int (formI u l x y)) (fun H3 e3 Q1 q1 => ⟨.ref a, rfl, .str x, rfl, .str y, rfl, a, u, l, x, y, rfl, ho.ex ((e1.trans e2).trans e3), hx, hy, fun H4 e4 => q1 H4 e4⟩) fun H3 e3 => q H3 ((e1.trans e2).trans e3)
theorem sc_require_order : FnScope ["value"] ["value"] (defScope (gF "require_order" 24).st) := ⟨rfl, rfl, rfl, by decide +kernel, rfl, by decide +kernel, by decide +kernel⟩
theorem c_require_order {P : Program} {w : World} {K : PySem.W.Frag} {mg : Str → Option Value} {base : Heap} (W : W0 K mg base) : Cal P w K mg base 1 (gF "require_order" 24) ["value"] (spO K anyO fun _ _ => .none) := by
  refine Cal.of W 15 rfl sc_require_order (fun vs H Q E h => ?len) (fun _ _ _ _ _ _ us hl => match us, hl with | [_], _ => rfl) (fun cdv A outer s H vs Q E hr h => ?body)
  case len => exact spO_len h
  have nd := sc_require_order.nd
  refine ⟨_, (pss_one (ps_if (pt_not (pt_val (pe_callB (SlX.call_isiSl (.ref (He.ga K "Order"))) rfl (W.f 1 rfl) bb_isinstance (pa_cons (pv 0) (pa_cons (pe_glob rfl (W.g 7 rfl) relRef) pa_nil))))) (pss_one ps_never) pss_nil)), ?_⟩
  obtain ⟨a, u, l, rfl, ho, _, q⟩ := h
  exact s_when (b := false) (et_is (et_not (et_B (ev_isiO W (ev_var rfl) ev_c ho))) rfl) (fun z => nomatch z) fun _ H1 e1 => q .non H1 e1 .non
theorem sc_require_whole : FnScope ["value"] ["value"] (defScope (gF "require_whole" 25).st) := ⟨rfl, rfl, rfl, by decide +kernel, rfl, by decide +kernel, by decide +kernel⟩
theorem c_require_whole {P : Program} {w : World} {K : PySem.W.Frag} {mg : Str → Option Value} {base : Heap} (W : W0 K mg base) : Cal P w K mg base 1 (gF "require_whole" 25) ["value"] (spO K (fun u l => ordWhole u l = true) fun _ _ => .none) := by
  refine Cal.of W 16 rfl sc_require_whole (fun vs H Q E h => ?len) (fun _ _ _ _ _ _ us hl => match us, hl with | [_], _ => rfl) (fun cdv A outer s H vs Q E hr h => ?body)
  case len => exact spO_len h
  have nd := sc_require_whole.nd
  refine ⟨_, (pss_one (ps_if (PW.pt (pw_or (pt_not (pt_val (pe_callB (SlX.call_isiSl (.ref (He.ga K "Order"))) rfl (W.f 1 rfl) bb_isinstance (pa_cons (pv 0) (pa_cons (pe_glob rfl (W.g 7 rfl) relRef) pa_nil))))) (pw_or1 (pt_not (pt_val (k_sl K (pv 0))))))) (pss_one ps_never) pss_nil)), ?_⟩
  obtain ⟨a, u, l, rfl, ho, hw, q⟩ := h
  have ho' := ho
  obtain ⟨ok, dx, vs, vu, vl, vp, du, dl, h1, ⟨s0, s1, s2, s5, s7, s8⟩, r7, r1, r5, h8, h2⟩ := ho'
  rw [hw] at s0
  exact s_when (b := false) (et_is (et_or (et_not (et_B (ev_isiO W (ev_var rfl) ev_c ho))) fun _ => et_not (et_B (ev_slot (ev_var rfl) h1 (W.sc 0 rfl) (W.sl 0 rfl) s0))) rfl) (fun z => nomatch z) fun _ H1 e1 => q .non H1 e1 .non
theorem sc_require_few : FnScope ["order"] ["order"] (defScope (gF "require_few" 60).st) := ⟨rfl, rfl, rfl, by decide +kernel, rfl, by decide +kernel, by decide +kernel⟩
theorem c_require_few {P : Program} {w : World} {K : PySem.W.Frag} {mg : Str → Option Value} {base : Heap} (W : W0 K mg base) : Cal P w K mg base 3 (gF "require_few" 60) ["order"] (spO K anyO fun _ _ => .none) := by
  refine Cal.of W 45 rfl sc_require_few (fun vs H Q E h => ?len) (fun _ _ _ _ _ _ us hl => match us, hl with | [_], _ => rfl) (fun cdv A outer s H vs Q E hr h => ?body)
  case len => exact spO_len h
  have nd := sc_require_few.nd
  refine ⟨_, (pss_one (ps_if (pt_cmpR op_gt (pe_callB (call_lenO W 1 rfl (c_Order___len__ W) (hr.mono (by decide))) rfl (W.f 0 rfl) bb_len (pa_cons (pv 0) pa_nil)) (pe_gi rfl (W.i 3 rfl)) (nomark _)) (pss_one ps_never) pss_nil)), ?_⟩
  obtain ⟨a, u, l, rfl, ho, _, q⟩ := h
  have hn := ho.ok.many
  refine s_when (b := false) (et_is (et_test (ev_op (y := .int 7) (x := .int u.length) (fun H1 e1 Q1 q1 => ⟨.ref a, rfl, ?_⟩) ev_c rv_I0)) (decide_eq_false (by omega))) (fun z => nomatch z) fun _ H1 e1 => q .non H1 e1 .non
  have ho1 := ho.ex e1
  obtain ⟨dx, vs, hs⟩ := ho1.slt
  refine ⟨a, dx, vs, rfl, hs, a, u, l, rfl, ho1, trivial, fun v H2 e2 r => ?_⟩
  cases r
  exact ⟨_, rfl, by omega, by omega, q1 H2 e2⟩
def spTwo (K : PySem.W.Frag) : Sp := fun vs H Q _ => ∃ a b u l u' l', vs = [.ref a, .ref b] ∧ IsOrd K H a u l ∧ IsOrd K H b u' l' ∧ ordWhole u l = true ∧ ordWhole u' l' = true ∧ ∀ H', Ex H H' → Q .non H'
theorem sc_require_two : FnScope ["one", "other"] ["one", "other"] (defScope (gF "require_two" 63).st) := ⟨rfl, rfl, rfl, by decide +kernel, rfl, by decide +kernel, by decide +kernel⟩
theorem c_require_two {P : Program} {w : World} {K : PySem.W.Frag} {mg : Str → Option Value} {base : Heap} (W : W0 K mg base) : Cal P w K mg base 4 (gF "require_two" 63) ["one", "other"] (spTwo K) := by
  refine Cal.of W 48 rfl sc_require_two (fun vs H Q E h => ?len) (fun _ _ _ _ _ _ us hl => match us, hl with | [_, _], _ => rfl) (fun cdv A outer s H vs Q E hr h => ?body)
  case len => obtain ⟨_, _, _, _, _, _, rfl, _⟩ := h; rfl
  have nd := sc_require_two.nd
  refine ⟨_, (pss_cons (ps_expr (k_cal K (c_require_whole W) (hr.mono (by decide)) rfl (W.g 10 rfl) (pa_cons (pv 0) pa_nil)))
      (pss_cons (ps_expr (k_cal K (c_require_whole W) (hr.mono (by decide)) rfl (W.g 10 rfl) (pa_cons (pv 1) pa_nil)))
      (pss_cons (ps_expr (k_cal K (c_require_few W) (hr.mono (by decide)) rfl (W.g 34 rfl) (pa_cons (pv 0) pa_nil)))
      (pss_one (ps_expr (k_cal K (c_require_few W) (hr.mono (by decide)) rfl (W.g 34 rfl) (pa_cons (pv 1) pa_nil))))))), ?_⟩
  obtain ⟨a, b, u, l, u', l', rfl, ho, ho', hw, hw', q⟩ := h
  refine q_drop (v := .non) (ev_non (ed_callO (ev_var rfl) ho hw)) fun H1 e1 => ?_
  refine q_drop (v := .non) (ev_non (ed_callO (ev_var rfl) (ho'.ex e1) hw')) fun H2 e2 => ?_
  refine q_drop (v := .non) (ev_non (ed_callO (ev_var rfl) (ho.ex (e1.trans e2)) trivial)) fun H3 e3 => ?_
  exact s_drop (v := .non) (ev_non (ed_callO (ev_var rfl) (ho'.ex ((e1.trans e2).trans e3)) trivial)) fun H4 e4 => q H4 (((e1.trans e2).trans e3).trans e4)
end PR
end
section
set_option Elab.async false
set_option linter.all false
set_option maxRecDepth 100000
set_option maxHeartbeats 4000000
/-! The glued surface: walk, corners, angles. -/
namespace PR
open PySem PySem.Spec PyProof.Rows L2 Evl
theorem zpD_strs (ss : List Str) : zpD (ss.map PyData.str) ((ss.map PyData.str).drop 1) = (List.range (ss.length - 1)).map fun i => .tuple [.str (ss.getD i Str.empty), .str (ss.getD (i + 1) Str.empty)] := by
  unfold zpD
  refine List.ext_getElem? fun i => ?_
  rw [List.getElem?_map, List.getElem?_map]
  by_cases hi : i < ss.length - 1
  · have h1 : (ss.map PyData.str)[i]? = some (.str (ss.getD i Str.empty)) := by
      rw [List.getElem?_map, List.getElem?_eq_getElem (by omega), List.getD_eq_getElem?_getD, List.getElem?_eq_getElem (by omega)] <;> rfl
    have h2 : ((ss.map PyData.str).drop 1)[i]? = some (.str (ss.getD (i + 1) Str.empty)) := by
      rw [List.getElem?_drop, List.getElem?_map, Nat.add_comm 1 i, List.getElem?_eq_getElem (by omega), List.getD_eq_getElem?_getD, List.getElem?_eq_getElem (by omega)] <;> rfl
    rw [List.getElem?_zip_eq_some (z := (_, _)) |>.mpr ⟨h1, h2⟩, List.getElem?_range hi]
    rfl
  · rw [List.getElem?_eq_none (by rw [List.length_zip, List.length_drop, List.length_map]; omega), List.getElem?_eq_none (by rw [List.length_range]; omega)]
    rfl
def keyZ : PyData → Key
  | .tuple [.str x, _] => Sum.inr x
  | _ => Sum.inl 0
def valZ (g : Str → V) : PyData → V
  | .tuple [_, .str y] => g y
  | _ => .non
theorem getD_dropLast (ss : List Str) {i : Nat} (h : i < ss.length - 1) : ss.dropLast.getD i Str.empty = ss.getD i Str.empty := by
  rw [List.getD_eq_getElem?_getD, List.getD_eq_getElem?_getD, List.getElem?_eq_getElem (by rw [List.length_dropLast]; exact h), List.getElem?_eq_getElem (by omega), List.getElem_dropLast]
theorem dc_zip {ss : List Str} (nd : ss.Nodup) (g : Str → V) : dcAt (fun i => keyZ ((zpD (ss.map PyData.str) ((ss.map PyData.str).drop 1)).getD i .none)) (fun i => valZ g ((zpD (ss.map PyData.str) ((ss.map PyData.str).drop 1)).getD i .none)) (zpD (ss.map PyData.str) ((ss.map PyData.str).drop 1)).length =
    namK ss.dropLast fun i => g (ss.getD (i + 1) Str.empty) := by
  have hi : ∀ i, i < ss.length - 1 → (zpD (ss.map PyData.str) ((ss.map PyData.str).drop 1)).getD i .none = .tuple [.str (ss.getD i Str.empty), .str (ss.getD (i + 1) Str.empty)] := fun i hi => by
    rw [zpD_strs, List.getD_eq_getElem?_getD, List.getElem?_map, List.getElem?_range hi] <;> rfl
  have hl : (zpD (ss.map PyData.str) ((ss.map PyData.str).drop 1)).length = ss.length - 1 := by rw [zpD_strs, List.length_map, List.length_range]
  rw [hl, dcAt_nodup fun i j h1 h2 e => ?_]
  · unfold namK
    rw [List.length_dropLast]
    refine List.map_congr_left fun i h => ?_
    have h' := List.mem_range.mp h
    rw [hi i h', getD_dropLast ss h']
    rfl
  · rw [hi i h1, hi j h2] at e
    have e1 : ss.getD i Str.empty = ss.getD j Str.empty := Sum.inr.inj e
    have k1 : i < ss.length := by omega
    have k2 : j < ss.length := by omega
    simp [List.getD_eq_getElem?_getD, List.getElem?_eq_getElem k1, List.getElem?_eq_getElem k2] at e1
    exact (List.getElem_inj nd).mp e1
def walkF (u l : List Str) (x : Str) : Int := if x ∈ l.dropLast then pos u (l.getD (l.dropLast.idxOf x + 1) Str.empty) else u.length
def walkI (u l : List Str) : List Int := pos u (l.getD 0 Str.empty) :: u.map (walkF u l)
theorem sc_walk_of : FnScope ["order", "upper", "lower", "name", "numbers", "behind", "found", "at", "other"] ["order"] (defScope (gF "walk_of" 28).st) := ⟨rfl, rfl, rfl, by decide +kernel, rfl, by decide +kernel, by decide +kernel⟩
theorem c_walk_of {P : Program} {w : World} {K : PySem.W.Frag} {mg : Str → Option Value} {base : Heap} (W : W0 K mg base) : Cal P w K mg base 3 (gF "walk_of" 28) ["order"] (spO K anyO fun u l => tI (walkI u l)) := by
  refine Cal.of W 18 rfl sc_walk_of (fun vs H Q E h => ?len) (fun _ _ _ _ _ _ us hl => match us, hl with | [_], _ => rfl) (fun cdv A outer s H vs Q E hr h => ?body)
  case len => exact spO_len h
  have nd := sc_walk_of.nd
  refine ⟨_, (pss_cons (ps_par (i := 1) (j := 2) rfl nd rfl rfl (by decide) rfl rfl (pa_cons (k_prop K (pv 0) W 0 rfl (c_Order_above W) (hr.mono (by decide))) (pa_cons (k_prop K (pv 0) W 1 rfl (c_Order_below W) (hr.mono (by decide))) pa_nil)) rfl)
      (pss_cons (ps_set (i := 4) nd rfl (Or.inr rfl) (pe_dc (own := [("at", 7), ("name", 3)]) (g := (gTup K 2 (gCons (gName 7) (gCons (gName 3) gNil)))) (tt := tYes) rfl nd (pi_enumT rfl (W.f 9 rfl) (pa_cons (pv 1) pa_nil)) (blkOk_by (N := ["order", "upper", "lower", "name", "numbers", "behind", "found", "at", "other"]) (sc := defScope (gF "walk_of" 28).st) (by decide +kernel)) (fun _ _ _ _ _ => (pg_tup rfl (pgs_cons (pg_name (i := 7) nd rfl (by first | exact Or.inl rfl | exact Or.inr rfl)) (pgs_cons (pg_name (i := 3) nd rfl (by first | exact Or.inl rfl | exact Or.inr rfl)) pgs_nil)))) (fun _ _ _ _ _ => pts_nil) (fun _ _ _ _ _ => (pv 3)) (fun _ _ _ _ _ => (pe_op op_add (pv 7) pe_int))))
      (pss_cons (ps_setDc (own := [("name", 3), ("other", 8)]) (g := (gTup K 2 (gCons (gName 3) (gCons (gName 8) gNil)))) (tt := tYes) (i := 5) rfl nd rfl rfl (sw_dc rfl rfl rfl (by decide +kernel)) (RZ.pi_zipA rfl (W.f 10 rfl) (pa_cons (pv 2) (pa_cons (pe_slice (k_slT K) (pv 2) (po_some pe_int) po_none) pa_nil))) (blkOk_by (N := ["order", "upper", "lower", "name", "numbers", "behind", "found", "at", "other"]) (sc := defScope (gF "walk_of" 28).st) (by decide +kernel)) (fun _ _ _ _ _ => (pg_tup rfl (pgs_cons (pg_name (i := 3) nd rfl (by first | exact Or.inl rfl | exact Or.inr rfl)) (pgs_cons (pg_name (i := 8) nd rfl (by first | exact Or.inl rfl | exact Or.inr rfl)) pgs_nil)))) (fun _ _ _ _ _ => pts_nil) (fun _ _ _ _ _ => (pv 3)) (fun _ _ _ _ _ => (pe_dget (hu_of hr) (pv 4) (pv 8) (fun _ _ => rfl))))
      (pss_cons (ps_set (i := 6) nd rfl (Or.inl rfl) (pe_lst (pa_cons (pe_op op_sub (pe_dget (hu_of hr) (pv 4) (pe_ix (k_ixT K) (pv 2) pe_int (fun _ _ => rfl)) (fun _ _ => rfl)) pe_int) pa_nil)))
      (pss_cons (ps_for PassesOwn.never rfl (k_pi_tup K (pv 1)) (pg_name (i := 3) nd rfl (Or.inl rfl)) (pss_one (ps_expr (k_bm K PySem.F.plainAttrs_list PySem.F.slot_list_append PySem.F.type_list_append mt_append (pv 6) (pa_cons (pe_ifExp (pt_cmp (pc_din (hu_of hr) (pv 3) (pv 5)) (by with_unfolding_all rfl)) (pe_op op_sub (pe_dget (hu_of hr) (pv 5) (pv 3) (fun _ _ => rfl)) pe_int) (pe_callB (k_len K) rfl (W.f 0 rfl) bb_len (pa_cons (pv 1) pa_nil))) pa_nil)))))
      (pss_one (ps_ret (pe_callTy (k_tuple K) rfl (W.f 2 rfl) bb_tuple (pa_cons (pv 6) pa_nil))))))))), ?_⟩
  obtain ⟨a, u, l, rfl, ho, _, q⟩ := h
  have ok := ho.ok
  have n1 := ok.up.len1
  have n6 := ok.many
  have nl : l.length = u.length := ok.pm.length_eq
  refine q_parD (eds_cons (ed_propO (ev_var rfl) ho trivial) (eds_cons (ed_propO (ev_var rfl) ho trivial) eds_nil)) fun vu vl H1 e1 ru rl => ?_
  refine q_asgK (evK_enum (g := fun i => .int ((i : Nat) + 1)) (eds_cons (ed_var rfl ru) eds_nil) ok.up.nd (by omega) (fun _ _ => rfl) (fun _ _ => rfl) fun i x H5 => ev_op (ev_var rfl) ev_c rv_I0) fun p1 H2 f1 e2 h2 => ?_
  have ml : ∀ y ∈ l, y ∈ u := fun y hy => ok.pm.mem_iff.mp hy
  refine q_asgK (kvs := namK l.dropLast fun i => .int (pos u (l.getD (i + 1) Str.empty) + 1)) ?_ fun p2 H3 f2 e3 h3 => ?_
  · have z := evK_map2 (K := K) (j := 3) (k := 8) (ws := [3, 8]) (tk := tVar 3) (tv := tDGet (tVar 4) (tVar 8)) keyZ (valZ fun y => .int (pos u y + 1))
      (edI_zpT (σ := [some (.ref a), some vu, some vl, none, some (.ref p1), none, none, none, none]) (H := H2) (tr := tCons (tVar 2) (tCons (tSl (rSlA K) (tVar 2) (tPart (tC (.int 1))) tNoPart) tNil)) (eds_cons (ed_var rfl (rl.ex e2)) (eds_cons (ed_is (ed_sl (ed_var rfl (rl.ex e2)) (eo_some ev_c) eo_none) (congrArg _ (cutL_from _ 1))) eds_nil)))
      (fun _ _ => exT) (by rw [zpD_strs, List.length_map, List.length_range]; omega) (fun _ _ => rfl) zpD_pairs (fun x y v w' H4 e4 hm r1 r2 => by
        obtain ⟨s1, s2, m1, m2, rfl, rfl⟩ := mem_zipS hm
        cases r1
        cases r2
        exact ⟨ev_var rfl, ev_dget (k := Sum.inr s2) (ev_var rfl) (e4 _ _ h2) (ev_var rfl) (namK_val (ml _ m2))⟩)
    rw [dc_zip ok.low.nd] at z
    exact z
  have l0 : (l.map PyData.str)[0]? = some (.str (l.getD 0 Str.empty)) := by
    rw [List.getElem?_map, List.getElem?_eq_getElem (by omega), List.getD_eq_getElem?_getD, List.getElem?_eq_getElem (by omega)] <;> rfl
  have m0 : l.getD 0 Str.empty ∈ u := ml _ (by
    rw [List.getD_eq_getElem?_getD, List.getElem?_eq_getElem (by omega)]
    exact List.getElem_mem _)
  refine q_asgM (K := K) (ds := [.int (pos u (l.getD 0 Str.empty))]) (edL_lst (eds_cons (ed_int (ev_is (ev_op (ev_dget (k := Sum.inr _) (ev_var rfl) (e3 _ _ h2) (ev_str (ed_ixTn (i := 0) (ed_var rfl (rl.ex (e2.trans e3))) ev_c l0)) (namK_val m0)) ev_c rv_I0) (congrArg V.int (by unfold pos; omega)))) eds_nil) (by show 1 ≤ 100000; decide)) fun p vs H4 f4 e4 h4 r4 => ?_
  have e14 := (e2.trans e3).trans e4
  have ev4 : vs = [.int (pos u (l.getD 0 Str.empty))] := by
    cases r4 with
    | cons a b =>
      cases a
      cases b
      rfl
  subst ev4
  have hlu : (u.map PyData.str).length = u.length := List.length_map ..
  refine q_forD (edI_tup (ed_var rfl (ru.ex e14))) (fun H5 i σ' H' => ∃ y3, σ' = [some (.ref a), some vu, some vl, y3, some (.ref p1), some (.ref p2), some (.ref p), none, none] ∧ Ex H3 H' ∧ TEx H5 H' ∧ H' p = some (.lst ((pos u (l.getD 0 Str.empty) :: (u.take i).map (walkF u l)).map V.int)))
    (fun H5 e5 => ⟨none, rfl, e4.trans e5, TEx.refl _, e5 _ _ h4⟩) (fun H5 i σ' H' _ _ pv => by obtain ⟨_, _, _, t, _⟩ := pv; exact t) (fun H5 i d x σ' H' H'' e5 hd pv e6 rx => ?_) (fun H5 σ' H' e5 pv => ?_)
  · obtain ⟨y3, rfl, eH, tH, hp⟩ := pv
    have hi : i < u.length := by
      have := (List.getElem?_eq_some_iff.mp hd).1
      rw [hlu] at this
      exact this
    rw [List.getElem?_map, List.getElem?_eq_getElem hi] at hd
    cases hd
    cases rx
    have eq : Ex H3 H'' := eH.trans e6
    have hp6 := e6 _ _ hp
    have mi : u[i] ∈ u := List.getElem_mem hi
    have hv : Ev (tIf (tB (tDIn (tVar 3) (tVar 5))) (tOp (rI0 fun i j => .int (i - j)) (tDGet (tVar 5) (tVar 3)) (tC (.int 1))) (tCB (rLenS K) (tCons (tVar 1) tNil))) [some (.ref a), some vu, some vl, some (.str u[i]), some (.ref p1), some (.ref p2), some (.ref p), none, none] H'' (.int (walkF u l u[i])) := by
      unfold walkF
      refine ev_if (b := decide (u[i] ∈ l.dropLast)) (et_B (ev_din (k := Sum.inr u[i]) (ev_var rfl) (ev_var rfl) (eq _ _ h3) ?_)) (fun hb => ?_) fun hb => ?_
      · by_cases hm : u[i] ∈ l.dropLast
        · rw [namK_val hm, decide_eq_true hm] <;> rfl
        · rw [namK_none hm, decide_eq_false hm] <;> rfl
      · have hm := of_decide_eq_true hb
        rw [if_pos hm]
        exact ev_is (ev_op (ev_dget (k := Sum.inr u[i]) (ev_var rfl) (eq _ _ h3) (ev_var rfl) (namK_val hm)) ev_c rv_I0) (congrArg V.int (by omega))
      · rw [if_neg (of_decide_eq_false hb)]
        exact ev_is (ev_lenT (ed_var rfl (ru.ex (e2.trans (e3.trans eq))))) (by rw [hlu])
    refine s_app hp6 (ev_var rfl) hv (by rw [List.length_map, List.length_cons, List.length_map, List.length_take]; omega) fun H7 e7 => ?_
    have hp7 := e7 _ _ hp6
    refine ⟨_, rfl, Ex.mut (eq.trans e7) f4, (tH.trans (exT (e6.trans e7))).trans (TEx.lst hp7), ?_⟩
    rw [upd_same, List.take_add_one, List.getElem?_eq_getElem hi]
    simp only [Option.toList_some, List.map_append, List.map_cons, List.map_nil, List.cons_append]
  · obtain ⟨y3, rfl, eH, tH, hp⟩ := pv
    refine s_retD (ed_tupLs (ds := (walkI u l).map PyData.int) (ev_var rfl) (sq_of hp) ?_) fun v H6 e6 r => q v H6 (((e1.trans (e2.trans e3)).trans eH).trans e6) r
    rw [hlu, List.take_of_length_le (Nat.le_refl _)]
    exact rps_ints _
/-! ### corners -/
def cornerF (ns : List Int) (st : Int) : Nat → List Int → Int → Option (List Int)
  | 0, _, _ => none
  | k + 1, pre, x => match atI ns x with
    | none => none
    | some y => if y = st then some (pre ++ [x]) else cornerF ns st k (pre ++ [x]) y
theorem cornerF_len {ns : List Int} {st : Int} : ∀ {k : Nat} {pre : List Int} {x : Int} {cs : List Int}, cornerF ns st k pre x = some cs → cs.length ≤ pre.length + k
  | 0, _, _, _, h => nomatch h
  | k + 1, pre, x, cs, h => by
    unfold cornerF at h
    split at h
    · exact nomatch h
    · split at h
      · cases h
        rw [List.length_append, List.length_singleton]
        omega
      · have := cornerF_len h
        rw [List.length_append, List.length_singleton] at this
        omega
def spCorner (K : PySem.W.Frag) : Sp := fun vs H Q _ => ∃ v ns st cs, vs = [v, .int st] ∧ Rp K H v (tI ns) ∧ cornerF ns st 100 [] st = some cs ∧ ∀ v' H', Ex H H' → Rp K H' v' (tI cs) → Q v' H'
theorem atI_map {α β : Type} {xs : List α} {i : Int} {v : α} (f : α → β) (h : atI xs i = some v) : atI (xs.map f) i = some (f v) := by
  unfold atI at h ⊢
  rw [List.length_map]
  cases hx : ixN xs.length i with
  | none => rw [hx] at h; exact nomatch h
  | some j =>
    rw [hx] at h
    show (xs.map f)[j]? = _
    rw [List.getElem?_map, (show xs[j]? = some v from h)] <;> rfl
theorem sc_corner_from : FnScope ["walk", "start", "found"] ["walk", "start"] (defScope (gF "corner_from" 29).st) := ⟨rfl, rfl, rfl, by decide +kernel, rfl, by decide +kernel, by decide +kernel⟩
theorem c_corner_from {P : Program} {w : World} {K : PySem.W.Frag} {mg : Str → Option Value} {base : Heap} (W : W0 K mg base) : Cal P w K mg base 1 (gF "corner_from" 29) ["walk", "start"] (spCorner K) := by
  refine Cal.of W 19 rfl sc_corner_from (fun vs H Q E h => ?len) (fun _ _ _ _ _ _ us hl => match us, hl with | [_, _], _ => rfl) (fun cdv A outer s H vs Q E hr h => ?body)
  case len => obtain ⟨_, _, _, _, rfl, _⟩ := h; rfl
  have nd := sc_corner_from.nd
  refine ⟨_, (pss_cons (ps_set (i := 2) nd rfl (Or.inl rfl) (pe_lst (pa_cons (pv 1) pa_nil)))
      (pss_cons (ps_while PassesOwn.never (pt_cmpR op_ne (pe_ix (k_ixT K) (pv 0) (pe_ix (k_ixL K) (pv 2) (pe_un un_neg pe_int) (fun _ _ => rfl)) (fun _ _ => rfl)) (pv 1) (nomark _)) (pss_one (ps_expr (k_bm K PySem.F.plainAttrs_list PySem.F.slot_list_append PySem.F.type_list_append mt_append (pv 2) (pa_cons (pe_ix (k_ixT K) (pv 0) (pe_ix (k_ixL K) (pv 2) (pe_un un_neg pe_int) (fun _ _ => rfl)) (fun _ _ => rfl)) pa_nil)))))
      (pss_one (ps_ret (pe_callTy (k_tuple K) rfl (W.f 2 rfl) bb_tuple (pa_cons (pv 2) pa_nil)))))), ?_⟩
  obtain ⟨v, ns, st, cs, rfl, hv, hc, q⟩ := h
  refine q_asgM (K := K) (ds := [.int st]) (edL_lst (eds_cons (ed_int (ev_var rfl)) eds_nil) (by show 1 ≤ 100000; decide)) fun p vs H1 f1 e1 h1 r1 => ?_
  have ev1 : vs = [.int st] := Rps.ints (ns := [st]) r1
  subst ev1
  refine q_while (fun m σ' H' => ∃ pre x, σ' = [some v, some (.int st), some (.ref p)] ∧ Ex H H' ∧ H' p = some (.lst ((pre ++ [x]).map V.int)) ∧ cornerF ns st m pre x = some cs ∧ pre.length + m ≤ 100) 100 ⟨[], st, rfl, e1, h1, hc, Nat.le_refl _⟩ fun m σ' H' hw => ?_
  obtain ⟨pre, x, rfl, eH, hp, hcm, hm⟩ := hw
  cases m with
  | zero => exact nomatch hcm
  | succ m =>
    unfold cornerF at hcm
    cases hy : atI ns x with
    | none => rw [hy] at hcm; exact nomatch hcm
    | some y =>
      rw [hy] at hcm
      have hcm : (if y = st then some (pre ++ [x]) else cornerF ns st m (pre ++ [x]) y) = some cs := hcm
      have hl : atI ((pre ++ [x]).map V.int) (-1) = some (.int x) := by
        rw [List.map_append]
        exact atI_last _ _
      have hx : ∀ {H5 : Hp}, Ex H' H5 → Ev (tOp (rIxT K) (tVar 0) (tOp (rIxL K) (tVar 2) (tUn (fun x H Q => ∃ i, x = .int i ∧ Q (.int (-i)) H) (tC (.int 1))))) [some v, some (.int st), some (.ref p)] H5 (.int y) := fun e5 =>
        ev_int (ed_ixT (ed_var rfl (hv.ex (eH.trans e5))) (ev_op (ev_var rfl) (ev_un ev_c ru_neg) (rv_ixL (sq_of (e5 _ _ hp)) hl)) (atI_map PyData.int hy))
      refine ⟨!decide (V.int y = V.int st), et_test (ev_op (hx (Ex.refl _)) (ev_var rfl) (rv_ne rfl)), fun hb H2 e2 => ?_, fun hb H2 e2 => ?_⟩
      · have hne : y ≠ st := fun z => by subst z; simp at hb
        rw [if_neg hne] at hcm
        refine ⟨fun σ2 H3 => ∃ pre x, σ2 = [some v, some (.int st), some (.ref p)] ∧ Ex H H3 ∧ H3 p = some (.lst ((pre ++ [x]).map V.int)) ∧ cornerF ns st m pre x = some cs ∧ pre.length + m ≤ 100, fun σ2 H3 z => ⟨m, Nat.lt_succ_self _, z⟩, ?_⟩
        have hp2 := e2 _ _ hp
        refine s_app hp2 (ev_var rfl) (hx e2) (by rw [List.length_map, List.length_append, List.length_singleton]; omega) fun H3 e3 => ?_
        refine ⟨pre ++ [x], y, rfl, Ex.mut ((eH.trans e2).trans e3) f1, ?_, hcm, by rw [List.length_append, List.length_singleton]; omega⟩
        rw [upd_same]
        simp only [List.map_append, List.map_cons, List.map_nil]
      · have hye : y = st := by
          have := of_decide_eq_true (p := V.int y = V.int st) (by simpa using hb)
          exact V.int.inj this
        rw [if_pos hye] at hcm
        cases hcm
        refine s_retD (ed_tupLs (ds := (pre ++ [x]).map PyData.int) (ev_var rfl) (sq_of (e2 _ _ hp)) (rps_ints _)) fun v' H3 e3 r => q v' H3 ((eH.trans e2).trans e3) r
def cornersF (ns : List Int) : List Nat → List Int → List (List Int) → Option (List (List Int))
  | [], _, found => some found
  | i :: r, met, found => if (i : Int) ∈ met then cornersF ns r met found else match cornerF ns i 100 [] i with
    | none => none
    | some c => cornersF ns r (met ++ c) (found ++ [c])
def tT (cs : List (List Int)) : PyData := .tuple (cs.map tI)
def keyI : PyData → Key
  | .int i => Sum.inl i
  | _ => Sum.inl 0
theorem valV_merge : ∀ (more kvs : List (Key × V)) (k : Key), (valV (mergeK kvs more) k).isSome = ((valV kvs k).isSome || (valV more k).isSome)
  | [], kvs, k => by
    show (valV kvs k).isSome = ((valV kvs k).isSome || false)
    rw [Bool.or_false]
  | p :: r, kvs, k => by
    show (valV (mergeK (putK kvs p.1 p.2) r) k).isSome = _
    rw [valV_merge r, valV_put]
    by_cases e : k = p.1
    · rw [if_pos e, valV_pos (p := p) e.symm]
      simp
    · rw [if_neg e, valV_neg (fun z => e z.symm)]
def dcMet (c : List Int) : List (Key × V) := dcAt (fun i => keyI ((c.map PyData.int).getD i .none)) (fun _ => .bl true) (c.map PyData.int).length
theorem dcMet_len (c : List Int) : (dcMet c).length ≤ c.length := by
  have := dcAt_len (fun i => keyI ((c.map PyData.int).getD i .none)) (fun _ => V.bl true) (c.map PyData.int).length
  have h3 : (c.map PyData.int).length = c.length := List.length_map ..
  unfold dcMet
  omega
theorem met_more (c : List Int) (j : Int) : (valV (dcMet c) (Sum.inl j)).isSome = decide (j ∈ c) := by
  rw [dcMet, dcAt_val, Option.isSome_map, List.length_map]
  by_cases h : j ∈ c
  · rw [decide_eq_true h, List.find?_isSome]
    obtain ⟨i, hi, e⟩ := List.mem_iff_getElem.mp h
    refine ⟨i, List.mem_reverse.mpr (List.mem_range.mpr hi), decide_eq_true ?_⟩
    rw [List.getD_eq_getElem?_getD, List.getElem?_map, List.getElem?_eq_getElem hi, e] <;> rfl
  · rw [decide_eq_false h, ← Bool.not_eq_true, List.find?_isSome]
    rintro ⟨i, hi, e⟩
    have hi' := List.mem_range.mp (List.mem_reverse.mp hi)
    have e := of_decide_eq_true e
    rw [List.getD_eq_getElem?_getD, List.getElem?_map, List.getElem?_eq_getElem hi'] at e
    have e : (Sum.inl c[i] : Key) = Sum.inl j := e
    cases e
    exact h (List.getElem_mem hi')
theorem ed_cornerC {K : PySem.W.Frag} {σ : L2.St} {H : Hp} {ta tb : TE} {ns cs : List Int} {st : Int} (h1 : Ed K ta σ H (tI ns)) (h2 : Ev tb σ H (.int st)) (hc : cornerF ns st 100 [] st = some cs) : Ed K (tCall (spCorner K) [] E0 (tCons ta (tCons tb tNil))) σ H (tI cs) := fun H1 e Q q =>
  h1 H1 e _ fun v H2 e2 r => h2 H2 (e.trans e2) _ fun H3 e3 => ⟨v, ns, st, cs, rfl, r.ex e3, hc, fun v' H4 e4 r' => q v' H4 ((e2.trans e3).trans e4) r'⟩
theorem s_dupd {K : PySem.W.Frag} {σ : L2.St} {H : Hp} {D : Ends} {ta tb : TE} {p : Addr} {kvs more : List (Key × V)} (hp : H p = some (.dK kvs)) (ha : Ev ta σ H (.ref p)) (h : EvK tb σ H more) (hz : kvs.length + more.length ≤ 100000)
    (k : ∀ H1, Ex H H1 → D.nx σ (upd H1 p (.dK (mergeK kvs more)))) : tDrop (tBM K "dict" rDUpd ta (tCons tb tNil)) D σ H := ha H (Ex.refl H) _ fun H1 e1 =>
  ⟨Or.inr (Or.inr (Or.inl ⟨rfl, Or.inl ⟨kvs, e1 _ _ hp⟩⟩)), h H1 e1 _ fun p2 H2 f2 e2 h2 => ⟨p, p2, kvs, more, rfl, rfl, e2 _ _ (e1 _ _ hp), h2, (fun z => by
    subst z
    rw [e1 _ _ hp] at f2
    exact nomatch f2), hz, k H2 (e1.trans e2)⟩⟩
theorem q_dupd {K : PySem.W.Frag} {σ : L2.St} {H : Hp} {D : Ends} {tz : TS} {ta tb : TE} {p : Addr} {kvs more : List (Key × V)} (hp : H p = some (.dK kvs)) (ha : Ev ta σ H (.ref p)) (h : EvK tb σ H more) (hz : kvs.length + more.length ≤ 100000)
    (k : ∀ H1, Ex H H1 → tz D σ (upd H1 p (.dK (mergeK kvs more)))) : tSeq (tDrop (tBM K "dict" rDUpd ta (tCons tb tNil))) tz D σ H := s_dupd (D := { D with nx := tz D }) hp ha h hz k
def spCorners (K : PySem.W.Frag) : Sp := fun vs H Q _ => ∃ a u l cs, vs = [.ref a] ∧ IsOrd K H a u l ∧ cornersF (walkI u l) (List.range (walkI u l).length) [] [] = some cs ∧ ∀ v' H', Ex H H' → Rp K H' v' (tT cs) → Q v' H'
theorem rng_ix {n : Nat} {i : Nat} {d : PyData} (h : (rngD 0 n)[i]? = some d) : i < n ∧ d = .int (i : Int) := by
  unfold rngD at h
  have hi : i < n := by
    have := (List.getElem?_eq_some_iff.mp h).1
    rwa [List.length_map, List.length_range] at this
  refine ⟨hi, ?_⟩
  rw [List.getElem?_map, List.getElem?_range hi] at h
  cases h
  show PyData.int (0 + (i : Int)) = _
  rw [Int.zero_add]
theorem rng_len (lo : Int) (n : Nat) : (rngD lo n).length = n := by unfold rngD; rw [List.length_map, List.length_range]
theorem sc_corners_of : FnScope ["order", "walk", "met", "found", "end", "corner", "one"] ["order"] (defScope (gF "corners_of" 30).st) := ⟨rfl, rfl, rfl, by decide +kernel, rfl, by decide +kernel, by decide +kernel⟩
theorem c_corners_of {P : Program} {w : World} {K : PySem.W.Frag} {mg : Str → Option Value} {base : Heap} (W : W0 K mg base) : Cal P w K mg base 4 (gF "corners_of" 30) ["order"] (spCorners K) := by
  refine Cal.of W 20 rfl sc_corners_of (fun vs H Q E h => ?len) (fun _ _ _ _ _ _ us hl => match us, hl with | [_], _ => rfl) (fun cdv A outer s H vs Q E hr h => ?body)
  case len => obtain ⟨_, _, _, _, rfl, _⟩ := h; rfl
  have nd := sc_corners_of.nd
  refine ⟨_, (pss_cons (ps_par3 (i := 1) (j := 2) (l := 3) rfl nd rfl rfl rfl (by decide) (by decide) (by decide) rfl rfl rfl (pa_cons (k_cal K (c_walk_of W) (hr.mono (by decide)) rfl (W.g 12 rfl) (pa_cons (pv 0) pa_nil)) (pa_cons pe_dnewK (pa_cons (pe_lst pa_nil) pa_nil))) rfl)
      (pss_cons (ps_for PassesOwn.never rfl (pi_range1 rfl (W.f 11 rfl) (pa_cons (pe_callB (k_len K) rfl (W.f 0 rfl) bb_len (pa_cons (pv 1) pa_nil)) pa_nil)) (pg_name (i := 4) nd rfl (Or.inl rfl)) (pss_one (ps_if (pt_cmp (pc_dnotin (hu_of hr) (pv 4) (pv 2)) (by with_unfolding_all rfl)) (pss_cons (ps_set (i := 5) nd rfl (Or.inl rfl) (k_cal K (c_corner_from W) (hr.mono (by decide)) rfl (W.g 13 rfl) (pa_cons (pv 1) (pa_cons (pv 4) pa_nil))))
      (pss_cons (ps_expr (k_bm K PySem.F.plainAttrs_dict PySem.F.slot_dict_update PySem.F.type_dict_update mt_dupd (pv 2) (pa_cons (pe_dc (own := [("one", 6)]) (g := (gName 6)) (tt := tYes) rfl nd (k_pi_tup K (pv 5)) (blkOk_by (N := ["order", "walk", "met", "found", "end", "corner", "one"]) (sc := defScope (gF "corners_of" 30).st) (by decide +kernel)) (fun _ _ _ _ _ => (pg_name (i := 6) nd rfl (by first | exact Or.inl rfl | exact Or.inr rfl))) (fun _ _ _ _ _ => pts_nil) (fun _ _ _ _ _ => (pv 6)) (fun _ _ _ _ _ => pe_bl)) pa_nil)))
      (pss_one (ps_expr (k_bm K PySem.F.plainAttrs_list PySem.F.slot_list_append PySem.F.type_list_append mt_append (pv 3) (pa_cons (pv 5) pa_nil)))))) pss_nil)))
      (pss_one (ps_ret (pe_callTy (k_tuple K) rfl (W.f 2 rfl) bb_tuple (pa_cons (pv 3) pa_nil)))))), ?_⟩
  obtain ⟨a, u, l, cs, rfl, ho, hc, q⟩ := h
  have n6 := ho.ok.many
  have wl : (walkI u l).length = u.length + 1 := by unfold walkI; rw [List.length_cons, List.length_map]
  refine (ed_callO (f := fun u l => tI (walkI u l)) (pre := anyO) (ev_var rfl) ho trivial : Ed K _ _ H (tI (walkI u l))) H (Ex.refl _) _ fun wv H1 e1 rw1 => ?_
  intro p hp
  refine (edL_nil : EdL K (tLst tNil) _ _ []) _ (Ex.refl _) _ fun r vs H3 f3 e3 h3 r3 => ?_
  cases r3
  refine ⟨_, _, _, rfl, ?_⟩
  have e13 : Ex H1 H3 := (Ex.new hp).trans e3
  have hp3 : H3 p = some (.dK []) := e3 _ _ upd_same
  have fr : H r = none := fresh_back (e1.trans (Ex.new hp)) f3
  have fp : H p = none := fresh_back e1 hp
  have hpr : p ≠ r := fun z => by
    subst z
    rw [upd_same] at f3
    exact nomatch f3
  refine q_forD (K := K) (edI_rng1 (eva_cons (ev_is (ev_lenT (ed_var rfl (rw1.ex e13))) (congrArg (fun n : Nat => V.int n) (by rw [List.length_map]))) eva_nil) (by rw [wl]; omega))
    (fun H5 i σ' H' => ∃ y4 y5 kvs vs met fs, σ' = [some (.ref a), some wv, some (.ref p), some (.ref r), y4, y5, none] ∧ Ex H1 H' ∧ TEx H5 H' ∧ H' p = some (.dK kvs) ∧ H' r = some (.lst vs) ∧ Rps K H' vs (fs.map tI) ∧ (∀ j : Int, (valV kvs (Sum.inl j)).isSome = decide (j ∈ met)) ∧ cornersF (walkI u l) ((List.range (walkI u l).length).drop i) met fs = some cs ∧ kvs.length ≤ 100 * i ∧ fs.length ≤ i)
    (fun H5 e5 => ⟨none, none, [], [], [], [], rfl, e13.trans e5, TEx.refl _, e5 _ _ hp3, e5 _ _ h3, .nil, fun _ => rfl, hc, Nat.le_refl _, Nat.le_refl _⟩) (fun H5 i σ' H' _ _ pv => by obtain ⟨_, _, _, _, _, _, _, _, t, _⟩ := pv; exact t) (fun H5 i d x σ' H' H'' e5 hd pv e6 rx => ?_) (fun H5 σ' H' e5 pv => ?_)
  · obtain ⟨y4, y5, kvs, vs, met, fs, rfl, eH, tH, hk, hf, rf, mt, hcs, kl, fl⟩ := pv
    obtain ⟨hi, rfl⟩ := rng_ix hd
    cases rx
    have hi' : i < (walkI u l).length := by simpa using hi
    rw [List.drop_eq_getElem_cons (by rw [List.length_range]; exact hi'), List.getElem_range] at hcs
    unfold cornersF at hcs
    refine s_when (b := !decide ((i : Int) ∈ met)) (et_B (ev_dnin (k := Sum.inl (i : Int)) (ev_var rfl) (ev_var rfl) (e6 _ _ hk) (mt i))) (fun hb H6 e7 => ?_) fun hb H6 e7 => ?_
    · have hm : ¬ (i : Int) ∈ met := by simpa using hb
      rw [if_neg hm] at hcs
      cases hco : cornerF (walkI u l) i 100 [] i with
      | none => rw [hco] at hcs; exact nomatch hcs
      | some c =>
        rw [hco] at hcs
        have hcs : cornersF (walkI u l) ((List.range (walkI u l).length).drop (i + 1)) (met ++ c) (fs ++ [c]) = some cs := hcs
        have cl := cornerF_len hco
        have e67 := e6.trans e7
        refine q_asgD (ed_cornerC (ed_var rfl (rw1.ex (eH.trans e67))) (ev_var rfl) hco) fun v5 H7 e8 r5 => ?_
        have e68 := e67.trans e8
        refine q_dupd (more := dcMet c) (e68 _ _ hk) (ev_var rfl) ?_ ?_ fun H8 e9 => ?_
        · exact evK_map (K := K) (j := 6) (ws := [6]) keyI (fun _ => .bl true) (edI_tup (ed_var rfl r5)) (fun _ _ => exT) (by rw [List.length_map]; simp at cl; omega) (fun _ => rfl) fun d v H9 e10 hm9 r9 => by
            obtain ⟨j, _, rfl⟩ := List.mem_map.mp hm9
            cases r9
            exact ⟨ev_var rfl, ev_c⟩
        · have := dcMet_len c
          simp at cl
          omega
        · have e69 := e68.trans e9
          have hf9 : upd H8 p (.dK (mergeK kvs (dcMet c))) r = some (.lst vs) := Ex.upd_other (e69 _ _ hf) (Ne.symm hpr)
          have t9 : TEx H8 (upd H8 p (.dK (mergeK kvs (dcMet c)))) := TEx.dk (e69 _ _ hk)
          refine s_appD hf9 (ev_var rfl) (ed_var (d := tI c) rfl (r5.up ((exT e9).trans t9))) ?_ fun v8 H9 e10 r8 => ?_
          · have := rf.len
            rw [List.length_map] at this
            omega
          · have t10 : TEx H9 (upd H9 r (.lst (vs ++ [v8]))) := TEx.lst (e10 _ _ hf9)
            refine ⟨_, _, mergeK kvs (dcMet c), _, met ++ c, fs ++ [c], rfl, ?_, ?_, ?_, upd_same, ?_, fun j => ?_, hcs, ?_, by rw [List.length_append, List.length_singleton]; omega⟩
            · exact Ex.mut ((Ex.mut (eH.trans e69) hp).trans e10) (fresh_back (Ex.new hp) f3)
            · exact tH.trans ((exT e69).trans (t9.trans ((exT e10).trans t10)))
            · exact Ex.upd_other (e10 _ _ upd_same) hpr
            · rw [List.map_append]
              exact (rf.up ((exT e69).trans (t9.trans ((exT e10).trans t10)))).app (.cons (r8.up t10) .nil)
            · rw [valV_merge, mt, met_more]
              by_cases h1 : j ∈ met <;> by_cases h2 : j ∈ c <;> simp [h1, h2]
            · have := length_mergeK (dcMet c) kvs
              have h2 := dcMet_len c
              simp at cl
              omega
    · have hm : (i : Int) ∈ met := by simpa using hb
      rw [if_pos hm] at hcs
      have e67 := e6.trans e7
      exact ⟨_, y5, kvs, vs, met, fs, rfl, eH.trans e67, tH.trans (exT e67), e67 _ _ hk, e67 _ _ hf, rf.ex e67, mt, hcs, by omega, by omega⟩
  · obtain ⟨y4, y5, kvs, vs, met, fs, rfl, eH, tH, hk, hf, rf, mt, hcs, kl, fl⟩ := pv
    rw [rng_len, List.drop_of_length_le (by rw [List.length_range]; simp)] at hcs
    cases hcs
    exact s_retD (ed_tupLs (ev_var rfl) (sq_of hf) rf) fun v H6 e6 r => q v H6 ((e1.trans eH).trans e6) r
def angleN (c : List Int) (n : Int) : Nat := (c.filter fun e => decide (1 ≤ e) && decide (e < n)).length
def spAngle (K : PySem.W.Frag) : Sp := fun vs H Q _ => ∃ v c n, vs = [v, .int n] ∧ Rp K H v (tI c) ∧ c.length ≤ 1000 ∧ ∀ H', Ex H H' → Q (.int (angleN c n : Nat)) H'
theorem sc_angle_of : FnScope ["corner", "many", "end"] ["corner", "many"] (defScope (gF "angle_of" 31).st) := ⟨rfl, rfl, rfl, by decide +kernel, rfl, by decide +kernel, by decide +kernel⟩
theorem c_angle_of {P : Program} {w : World} {K : PySem.W.Frag} {mg : Str → Option Value} {base : Heap} (W : W0 K mg base) : Cal P w K mg base 1 (gF "angle_of" 31) ["corner", "many"] (spAngle K) := by
  refine Cal.of W 21 rfl sc_angle_of (fun vs H Q E h => ?len) (fun _ _ _ _ _ _ us hl => match us, hl with | [_, _], _ => rfl) (fun cdv A outer s H vs Q E hr h => ?body)
  case len => obtain ⟨_, _, _, rfl, _⟩ := h; rfl
  have nd := sc_angle_of.nd
  refine ⟨_, (pss_one (ps_ret (pe_callB (k_len K) rfl (W.f 0 rfl) bb_len (pa_cons (pe_lc (own := [("end", 2)]) (g := (gName 2)) rfl nd (k_pi_tup K (pv 0)) (blkOk_by (N := ["corner", "many", "end"]) (sc := defScope (gF "angle_of" 31).st) (by decide +kernel)) (fun _ _ _ _ _ => (pg_name (i := 2) nd rfl (by first | exact Or.inl rfl | exact Or.inr rfl))) (fun _ _ _ _ _ => (pts_one (pt_chain op_le op_lt pe_int (pv 2) (pv 1)))) (fun _ _ _ _ _ => (pv 2))) pa_nil)))), ?_⟩
  obtain ⟨v, c, n, rfl, hv, hl, q⟩ := h
  refine s_ret (ev_is (ev_lenL (edL_flt (K := K) (ws := [2]) (j := 2) (fun d => match d with | .int e => decide (1 ≤ e) && decide (e < n) | _ => false) id (edI_tup (ed_var rfl hv)) (fun _ _ => exT) (by rw [List.length_map]; omega) (fun _ => rfl) fun d x H1 e1 hm r => ?_)) ?_) q
  · obtain ⟨j, _, rfl⟩ := List.mem_map.mp hm
    cases r
    exact ⟨et_B (ev_chain ev_c (ev_var rfl) (ev_var rfl) rfl), fun _ => ed_int (ev_var rfl)⟩
  · unfold angleN
    rw [List.length_map, List.filter_map, List.length_map]
    rfl
def intOf : PyData → Int
  | .int i => i
  | _ => 0
theorem intOf_map (c : List Int) : (c.map PyData.int).map intOf = c := by
  rw [List.map_map]
  exact List.map_id _
def spAngles (K : PySem.W.Frag) : Sp := fun vs H Q _ => ∃ a u l cs, vs = [.ref a] ∧ IsOrd K H a u l ∧ cornersF (walkI u l) (List.range (walkI u l).length) [] [] = some cs ∧ (∀ c ∈ cs, c.length ≤ 1000) ∧ cs.length ≤ 1000 ∧
  ∀ p H', H p = none → Ex H H' → H' p = some (.lst (cs.map fun c => V.int (angleN c u.length : Nat))) → Q (.ref p) H'
theorem sc_angles_of : FnScope ["order", "corner"] ["order"] (defScope (gF "angles_of" 32).st) := ⟨rfl, rfl, rfl, by decide +kernel, rfl, by decide +kernel, by decide +kernel⟩
theorem c_angles_of {P : Program} {w : World} {K : PySem.W.Frag} {mg : Str → Option Value} {base : Heap} (W : W0 K mg base) : Cal P w K mg base 5 (gF "angles_of" 32) ["order"] (spAngles K) := by
  refine Cal.of W 22 rfl sc_angles_of (fun vs H Q E h => ?len) (fun _ _ _ _ _ _ us hl => match us, hl with | [_], _ => rfl) (fun cdv A outer s H vs Q E hr h => ?body)
  case len => obtain ⟨_, _, _, _, rfl, _⟩ := h; rfl
  have nd := sc_angles_of.nd
  refine ⟨_, (pss_one (ps_ret (pe_lc (own := [("corner", 1)]) (g := (gName 1)) (tt := tYes) rfl nd (k_pi_tup K (k_cal K (c_corners_of W) (hr.mono (by decide)) rfl (W.g 14 rfl) (pa_cons (pv 0) pa_nil))) (blkOk_by (N := ["order", "corner"]) (sc := defScope (gF "angles_of" 32).st) (by decide +kernel)) (fun _ _ _ _ _ => (pg_name (i := 1) nd rfl (by first | exact Or.inl rfl | exact Or.inr rfl))) (fun _ _ _ _ _ => pts_nil) (fun _ _ _ _ _ => (k_cal K (c_angle_of W) (hr.mono (by decide)) rfl (W.g 15 rfl) (pa_cons (pv 1) (pa_cons (pe_callB (k_len K) rfl (W.f 0 rfl) bb_len (pa_cons (k_prop K (pv 0) W 0 rfl (c_Order_above W) (hr.mono (by decide))) pa_nil)) pa_nil))))))), ?_⟩
  obtain ⟨a, u, l, cs, rfl, ho, hc, hl, hz, q⟩ := h
  refine s_retM (edL_map (K := K) (ws := [1]) (j := 1) (fun d => match d with | .tuple ds => .int (angleN (ds.map intOf) u.length : Nat) | _ => .none) (edI_tup (ds := cs.map tI) (fun H1 e1 Q1 q1 => ?_)) (fun _ _ => exT) (by rw [List.length_map]; omega) (fun _ => rfl) fun d x H1 e1 hm r => ?_) fun p vs H1 f1 e1 h1 r1 => ?_
  · exact ⟨_, rfl, a, u, l, cs, rfl, ho.ex e1, hc, fun v H2 e2 r => q1 v H2 e2 r⟩
  · obtain ⟨c, hcm, rfl⟩ := List.mem_map.mp hm
    refine ed_int (fun H2 e2 Q2 q2 => ⟨_, rfl, ?_⟩)
    refine (ev_lenT (ed_propO (f := fun u _ => tS u) (pre := anyO) (ev_var rfl) ((ho.ex e1).ex e2) trivial)) H2 (Ex.refl _) _ fun H3 e3 => ?_
    refine ⟨x, c, u.length, by rw [List.length_map] <;> rfl, (r.ex e2).ex e3, hl c hcm, fun H4 e4 => ?_⟩
    have z := q2 H4 (e3.trans e4)
    rw [intOf_map] at z
    exact z
  · have z : (cs.map tI).map (fun d => match d with | .tuple ds => .int (angleN (ds.map intOf) u.length : Nat) | _ => .none) = (cs.map fun c => (angleN c u.length : Int)).map PyData.int := by
      rw [List.map_map, List.map_map]
      refine List.map_congr_left fun c _ => ?_
      show PyData.int (angleN ((c.map PyData.int).map intOf) u.length : Nat) = _
      rw [intOf_map] <;> rfl
    rw [z] at r1
    have z2 := r1.ints
    subst z2
    rw [List.map_map] at h1
    exact q p H1 f1 e1 h1
end PR
end
section
set_option Elab.async false
set_option linter.all false
set_option maxRecDepth 100000
set_option maxHeartbeats 4000000
/-! Crossings. -/
namespace PR
open PySem PySem.Spec PyProof.Rows L2 Evl
def bitOn (some : Int) (i : Nat) : Bool := decide (Builtin.bitAnd (some / 2 ^ i) 1 = 1)
def indF (n : Nat) (some : Int) : List Nat := (List.range n).filter (bitOn some)
def indI (n : Nat) (some : Int) : List Int := (indF n some).map fun i : Nat => (i : Int)
def twiceF (rows : List Int) (n : Nat) (some others : Int) : Int := ((indF n some).map fun i => ((indI n (Builtin.bitAnd (rows.getD i 0) others)).length : Int)).sum
def oddly (rows : List Int) (n : Nat) (some others : Int) : Bool := decide (twiceF rows n some others % 2 = 1)
def isOddF (rows : List Int) (n : Nat) (some : Int) : Bool := decide ((((indI n some).length : Int) + twiceF rows n some some / 2) % 2 = 1)
def clearedF (rows : List Int) (n : Nat) (some one other : Int) : Int :=
  if oddly rows n some one then Builtin.bitXor (if oddly rows n some other then Builtin.bitXor some one else some) other else if oddly rows n some other then Builtin.bitXor some one else some
def rowF (u l : List Str) (x : Str) : Int := ((List.range u.length).map fun i => (if formI u l x (u.getD i Str.empty) = 0 then (0 : Int) else 1) * 2 ^ i).sum
def rowsF (u l : List Str) : List Int := u.map (rowF u l)
/-- the crossings with these rows stand at a -/
def IsCr (K : PySem.W.Frag) (H : Hp) (a : Addr) (u : List Str) (rows : List Int) : Prop :=
  (u.length ≤ 6 ∧ rows.length = u.length) ∧ ∃ dx vs vu lr, SlX.Slt H a (He.ga K "Crossings") dx vs ∧ vs[0]? = some (some vu) ∧ vs[1]? = some (some (.ref lr)) ∧ Rp K H vu (tS u) ∧ H lr = some (.lst (rows.map V.int))
theorem IsCr.ex {K : PySem.W.Frag} {H H' : Hp} {a : Addr} {u : List Str} {rows : List Int} (h : IsCr K H a u rows) (e : Ex H H') : IsCr K H' a u rows := by
  obtain ⟨ok, dx, vs, vu, lr, h1, h2, h3, h4, h5⟩ := h
  exact ⟨ok, dx, vs, vu, lr, slt_ex e h1, h2, h3, h4.ex e, e _ _ h5⟩
theorem IsCr.slt {K : PySem.W.Frag} {H : Hp} {a : Addr} {u : List Str} {rows : List Int} (h : IsCr K H a u rows) : ∃ dx vs, SlX.Slt H a (He.ga K "Crossings") dx vs := by
  obtain ⟨_, dx, vs, _, _, h1, _⟩ := h
  exact ⟨dx, vs, h1⟩
def spIndices (K : PySem.W.Frag) : Sp := fun vs H Q _ => ∃ a u rows m, vs = [.ref a, .int m] ∧ IsCr K H a u rows ∧ ∀ p H', H p = none → Ex H H' → H' p = some (.lst ((indI u.length m).map V.int)) → Q (.ref p) H'
theorem sc_Crossings_indices : FnScope ["self", "some", "at"] ["self", "some"] (defScope (mF "Crossings" "indices" "Crossings.indices" 33 2).st) := ⟨rfl, rfl, rfl, by decide +kernel, rfl, by decide +kernel, by decide +kernel⟩
theorem c_Crossings_indices {P : Program} {w : World} {K : PySem.W.Frag} {mg : Str → Option Value} {base : Heap} (W : W0 K mg base) : Cal P w K mg base 1 (mF "Crossings" "indices" "Crossings.indices" 33 2) ["self", "some"] (spIndices K) := by
  refine Cal.of W 24 rfl sc_Crossings_indices (fun vs H Q E h => ?len) (fun _ _ _ _ _ _ us hl => match us, hl with | [_, _], _ => rfl) (fun cdv A outer s H vs Q E hr h => ?body)
  case len => obtain ⟨_, _, _, _, rfl, _⟩ := h; rfl
  have nd := sc_Crossings_indices.nd
  refine ⟨_, (pss_one (ps_ret (pe_lc (own := [("at", 2)]) (g := (gName 2)) rfl nd (pi_range1 rfl (W.f 11 rfl) (pa_cons (pe_callB (k_len K) rfl (W.f 0 rfl) bb_len (pa_cons (k_sl K (pv 0)) pa_nil)) pa_nil)) (blkOk_by (N := ["self", "some", "at"]) (sc := defScope (mF "Crossings" "indices" "Crossings.indices" 33 2).st) (by decide +kernel)) (fun _ _ _ _ _ => (pg_name (i := 2) nd rfl (by first | exact Or.inl rfl | exact Or.inr rfl))) (fun _ _ _ _ _ => (pts_one (pt_cmpR op_eq (pe_op op_and (pe_op op_shr (pv 1) (pv 2)) pe_int) pe_int (nomark _)))) (fun _ _ _ _ _ => (pv 2))))), ?_⟩
  obtain ⟨a, u, rows, m, rfl, ho, q⟩ := h
  obtain ⟨⟨n6, rl⟩, dx, vs, vu, lr, h1, s0, s1, r0, hr5⟩ := ho
  refine s_retM (edL_is (es := (indI u.length m).map PyData.int) (edL_flt (K := K) (ws := [2]) (j := 2) (fun d => match d with | .int i => bitOn m i.toNat | _ => false) id (edI_rng1 (n := (u.length : Int)) (eva_cons (ev_is (ev_lenT (ed_slot (ev_var rfl) h1 (W.sc 1 rfl) (W.sl 9 rfl) s0 r0)) (by rw [List.length_map])) eva_nil) (by omega)) (fun _ _ => exT) (by rw [rng_len]; omega) (fun _ => rfl) fun d x H1 e1 hm r => ?_) ?_) fun p ws H1 f1 e1 h1 r1 => ?_
  · obtain ⟨i, hi⟩ := List.mem_iff_getElem?.mp hm
    obtain ⟨_, rfl⟩ := rng_ix hi
    cases r
    refine ⟨et_is (et_test (ev_op (ev_op (ev_op (ev_var rfl) (ev_var rfl) (rv_I (Int.natCast_nonneg i))) ev_c rv_I0) ev_c (rv_eq rfl))) ?_, fun _ => ed_int (ev_var rfl)⟩
    show decide (V.int _ = V.int 1) = bitOn m (i : Int).toNat
    rw [Int.toNat_natCast]
    unfold bitOn
    rw [Bool.eq_iff_iff]
    simp
  · unfold rngD indI indF
    rw [List.map_id, List.filter_map, List.map_map, Int.toNat_natCast]
    have e1 : ∀ i : Nat, (0 : Int) + (i : Int) = i := fun i => Int.zero_add _
    simp only [e1]
    show List.map (fun i : Nat => PyData.int i) _ = _
    refine congrArg _ (List.filter_congr fun i _ => ?_)
    show bitOn m (i : Int).toNat = _
    rw [Int.toNat_natCast]
  · have z := r1.ints
    subst z
    exact q p H1 f1 e1 h1
section
variable {K : PySem.W.Frag} {σ : L2.St} {H : Hp} {ta tb tc : TE} {a : Addr} {u : List Str} {rows : List Int} {m m2 : Int}
theorem edL_ind (ha : Ev ta σ H (.ref a)) (ho : IsCr K H a u rows) (hb : Ev tb σ H (.int m)) : EdL K (SlX.tMethSl (He.ga K "Crossings") (spIndices K) E0 ta (tCons tb tNil)) σ H ((indI u.length m).map PyData.int) := fun H1 e Q q =>
  ha H1 e _ fun H2 e2 => by
    have ho2 := ho.ex (e.trans e2)
    obtain ⟨dx, vs, hs⟩ := ho2.slt
    exact ⟨a, dx, vs, rfl, hs, hb H2 (e.trans e2) _ fun H3 e3 => ⟨a, u, rows, m, rfl, ho2.ex e3, fun p H4 f4 e4 h4 => q p _ H4 (fresh_back (e2.trans e3) f4) ((e2.trans e3).trans e4) h4 (rps_ints _)⟩⟩
theorem ev_row (ha : Ev ta σ H (.ref a)) (ho : IsCr K H a u rows) {i : Nat} (hb : Ev tb σ H (.int (i : Int))) (hi : i < u.length) {mg : Str → Option Value} {base : Heap} (W : W0 K mg base) : Ev (tOp (rIxL K) (SlX.tSl K ta "own_rows") tb) σ H (.int (rows.getD i 0)) := fun H1 e Q q => by
  obtain ⟨⟨n6, rl⟩, dx, vs, vu, lr, h1, s0, s1, r0, hr5⟩ := ho.ex e
  refine (ev_op (ev_slot (ha.mono e) h1 (W.sc 1 rfl) (W.sl 10 rfl) s1) (hb.mono e) (rv_ixL (sq_of hr5) (atI_nat ?_))) H1 (Ex.refl _) Q q
  rw [List.getElem?_map, List.getD_eq_getElem?_getD, List.getElem?_eq_getElem (by omega)] <;> rfl
end
def spOddly (K : PySem.W.Frag) : Sp := fun vs H Q _ => ∃ a u rows m k, vs = [.ref a, .int m, .int k] ∧ IsCr K H a u rows ∧ ∀ H', Ex H H' → Q (.bl (oddly rows u.length m k)) H'
theorem mem_ind {n : Nat} {m : Int} {d : PyData} (h : d ∈ (indI n m).map PyData.int) : ∃ i : Nat, i < n ∧ d = .int (i : Int) := by
  obtain ⟨j, hj, rfl⟩ := List.mem_map.mp h
  obtain ⟨i, hi, rfl⟩ := List.mem_map.mp hj
  exact ⟨i, List.mem_range.mp (List.mem_filter.mp hi).1, rfl⟩
theorem ind_len (n : Nat) (m : Int) : (indI n m).length ≤ n := by
  unfold indI indF
  rw [List.length_map]
  exact Nat.le_trans (List.length_filter_le _ _) (by rw [List.length_range]; exact Nat.le_refl _)
def twD (rows : List Int) (n : Nat) (k : Int) : PyData → PyData
  | .int i => .int ((indI n (Builtin.bitAnd (rows.getD i.toNat 0) k)).length : Int)
  | _ => .none
theorem twD_map (rows : List Int) (n : Nat) (m k : Int) : ((indI n m).map PyData.int).map (twD rows n k) = ((indF n m).map fun i => ((indI n (Builtin.bitAnd (rows.getD i 0) k)).length : Int)).map PyData.int := by
  unfold indI
  rw [List.map_map, List.map_map, List.map_map]
  refine List.map_congr_left fun i _ => ?_
  show PyData.int ((indI n (Builtin.bitAnd (rows.getD (i : Int).toNat 0) k)).length : Int) = _
  rw [Int.toNat_natCast] <;> rfl
theorem sc_Crossings_meets_oddly : FnScope ["self", "some", "others", "at"] ["self", "some", "others"] (defScope (mF "Crossings" "meets_oddly" "Crossings.meets_oddly" 33 4).st) := ⟨rfl, rfl, rfl, by decide +kernel, rfl, by decide +kernel, by decide +kernel⟩
theorem c_Crossings_meets_oddly {P : Program} {w : World} {K : PySem.W.Frag} {mg : Str → Option Value} {base : Heap} (W : W0 K mg base) : Cal P w K mg base 2 (mF "Crossings" "meets_oddly" "Crossings.meets_oddly" 33 4) ["self", "some", "others"] (spOddly K) := by
  refine Cal.of W 25 rfl sc_Crossings_meets_oddly (fun vs H Q E h => ?len) (fun _ _ _ _ _ _ us hl => match us, hl with | [_, _, _], _ => rfl) (fun cdv A outer s H vs Q E hr h => ?body)
  case len => obtain ⟨_, _, _, _, _, rfl, _⟩ := h; rfl
  have nd := sc_Crossings_meets_oddly.nd
  refine ⟨_, (pss_one (ps_ret (pe_cmpR op_eq (pe_op op_mod (pe_callB (k_sum K rfl) rfl (W.f 17 rfl) bb_sum (pa_cons (pe_lc (own := [("at", 3)]) (g := (gName 3)) (tt := tYes) rfl nd (k_pi_list K (k_methO K (pv 0) W 3 1 rfl rfl (c_Crossings_indices W) (hr.mono (by decide)) (pa_cons (pv 1) pa_nil))) (blkOk_by (N := ["self", "some", "others", "at"]) (sc := defScope (mF "Crossings" "meets_oddly" "Crossings.meets_oddly" 33 4).st) (by decide +kernel)) (fun _ _ _ _ _ => (pg_name (i := 3) nd rfl (by first | exact Or.inl rfl | exact Or.inr rfl))) (fun _ _ _ _ _ => pts_nil) (fun _ _ _ _ _ => (pe_callB (k_len K) rfl (W.f 0 rfl) bb_len (pa_cons (k_methO K (pv 0) W 3 1 rfl rfl (c_Crossings_indices W) (hr.mono (by decide)) (pa_cons (pe_op op_and (pe_ix (k_ixL K) (k_sl K (pv 0)) (pv 3) (fun _ _ => rfl)) (pv 2)) pa_nil)) pa_nil)))) pa_nil)) pe_int) pe_int (nomark _)))), ?_⟩
  obtain ⟨a, u, rows, m, k, rfl, ho, q⟩ := h
  have n6 := ho.1.1
  have il := ind_len u.length m
  refine s_ret (ev_is (ev_op (ev_op (ev_sum (ns := (indF u.length m).map fun i => ((indI u.length (Builtin.bitAnd (rows.getD i 0) k)).length : Int)) (edL_is (edL_map (K := K) (ws := [3]) (j := 3) (twD rows u.length k) (edI_new (edL_ind (ev_var rfl) ho (ev_var rfl))) (fun _ _ e => e) (by rw [List.length_map]; omega) (fun _ => rfl) fun d x H1 e1 hm r => ?_) (twD_map ..)) rfl) ev_c (rv_I (by decide))) ev_c (rv_eq rfl)) ?_) q
  · obtain ⟨i, hi, rfl⟩ := mem_ind hm
    cases r
    refine ed_int (ev_is (ev_lenL (edL_ind (ev_var rfl) (ho.ex e1) (ev_op (ev_row (ev_var rfl) (ho.ex e1) (ev_var rfl) hi W) (ev_var rfl) rv_I0))) ?_)
    rw [List.length_map, Int.toNat_natCast]
  · unfold oddly twiceF
    refine congrArg V.bl ?_
    rw [Bool.eq_iff_iff]
    simp
def spOddOne (K : PySem.W.Frag) : Sp := fun vs H Q _ => ∃ a u rows m, vs = [.ref a, .int m] ∧ IsCr K H a u rows ∧ ∀ H', Ex H H' → Q (.bl (isOddF rows u.length m)) H'
theorem sc_Crossings_is_odd : FnScope ["self", "some", "found", "twice", "at"] ["self", "some"] (defScope (mF "Crossings" "is_odd" "Crossings.is_odd" 33 5).st) := ⟨rfl, rfl, rfl, by decide +kernel, rfl, by decide +kernel, by decide +kernel⟩
theorem c_Crossings_is_odd {P : Program} {w : World} {K : PySem.W.Frag} {mg : Str → Option Value} {base : Heap} (W : W0 K mg base) : Cal P w K mg base 2 (mF "Crossings" "is_odd" "Crossings.is_odd" 33 5) ["self", "some"] (spOddOne K) := by
  refine Cal.of W 26 rfl sc_Crossings_is_odd (fun vs H Q E h => ?len) (fun _ _ _ _ _ _ us hl => match us, hl with | [_, _], _ => rfl) (fun cdv A outer s H vs Q E hr h => ?body)
  case len => obtain ⟨_, _, _, _, rfl, _⟩ := h; rfl
  have nd := sc_Crossings_is_odd.nd
  refine ⟨_, (pss_cons (ps_set (i := 2) nd rfl (Or.inl rfl) (k_methO K (pv 0) W 3 1 rfl rfl (c_Crossings_indices W) (hr.mono (by decide)) (pa_cons (pv 1) pa_nil)))
      (pss_cons (ps_set (i := 3) nd rfl (Or.inl rfl) (pe_callB (k_sum K rfl) rfl (W.f 17 rfl) bb_sum (pa_cons (pe_lc (own := [("at", 4)]) (g := (gName 4)) (tt := tYes) rfl nd (k_pi_list K (pv 2)) (blkOk_by (N := ["self", "some", "found", "twice", "at"]) (sc := defScope (mF "Crossings" "is_odd" "Crossings.is_odd" 33 5).st) (by decide +kernel)) (fun _ _ _ _ _ => (pg_name (i := 4) nd rfl (by first | exact Or.inl rfl | exact Or.inr rfl))) (fun _ _ _ _ _ => pts_nil) (fun _ _ _ _ _ => (pe_callB (k_len K) rfl (W.f 0 rfl) bb_len (pa_cons (k_methO K (pv 0) W 3 1 rfl rfl (c_Crossings_indices W) (hr.mono (by decide)) (pa_cons (pe_op op_and (pe_ix (k_ixL K) (k_sl K (pv 0)) (pv 4) (fun _ _ => rfl)) (pv 1)) pa_nil)) pa_nil)))) pa_nil)))
      (pss_one (ps_ret (pe_cmpR op_eq (pe_op op_mod (pe_op op_add (pe_callB (k_len K) rfl (W.f 0 rfl) bb_len (pa_cons (pv 2) pa_nil)) (pe_op op_fdiv (pv 3) pe_int)) pe_int) pe_int (nomark _)))))), ?_⟩
  obtain ⟨a, u, rows, m, rfl, ho, q⟩ := h
  have n6 := ho.1.1
  have il := ind_len u.length m
  refine q_asgM (edL_ind (ev_var rfl) ho (ev_var rfl)) fun p ws H1 f1 e1 h1 r1 => ?_
  have z := r1.ints
  subst z
  refine q_asg (v := .int (twiceF rows u.length m m)) (ev_sum (ns := (indF u.length m).map fun i => ((indI u.length (Builtin.bitAnd (rows.getD i 0) m)).length : Int)) (edL_is (edL_map (K := K) (ws := [4]) (j := 4) (twD rows u.length m) (edI_list (ev_var rfl) (sq_of h1) (rps_ints _)) (fun _ _ e => e) (by rw [List.length_map]; omega) (fun _ => rfl) fun d x H2 e2 hm r => ?_) (twD_map ..)) rfl) fun H2 e2 => ?_
  · obtain ⟨i, hi, rfl⟩ := mem_ind hm
    cases r
    refine ed_int (ev_is (ev_lenL (edL_ind (ev_var rfl) (ho.ex (e1.trans e2)) (ev_op (ev_row (ev_var rfl) (ho.ex (e1.trans e2)) (ev_var rfl) hi W) (ev_var rfl) rv_I0))) ?_)
    rw [List.length_map, Int.toNat_natCast]
  · refine s_ret (ev_is (ev_op (ev_op (ev_op (x := .int (indI u.length m).length) (ev_is (ev_len (ev_var rfl) (sq_of (e2 _ _ h1))) (by rw [List.length_map])) (ev_op (ev_var rfl) ev_c (rv_I ⟨by decide, by decide⟩)) rv_I0) ev_c (rv_I (by decide))) ev_c (rv_eq rfl)) ?_) fun H3 e3 => q H3 ((e1.trans e2).trans e3)
    unfold isOddF
    refine congrArg V.bl ?_
    rw [Bool.eq_iff_iff]
    simp
theorem ev_oddly {K : PySem.W.Frag} {σ : L2.St} {H : Hp} {ta tb tc : TE} {a : Addr} {u : List Str} {rows : List Int} {m k : Int} (ha : Ev ta σ H (.ref a)) (ho : IsCr K H a u rows) (hb : Ev tb σ H (.int m)) (hc : Ev tc σ H (.int k)) : Ev (SlX.tMethSl (He.ga K "Crossings") (spOddly K) E0 ta (tCons tb (tCons tc tNil))) σ H (.bl (oddly rows u.length m k)) := fun H1 e Q q =>
  ha H1 e _ fun H2 e2 => by
    have ho2 := ho.ex (e.trans e2)
    obtain ⟨dx, vs, hs⟩ := ho2.slt
    exact ⟨a, dx, vs, rfl, hs, hb H2 (e.trans e2) _ fun H3 e3 => hc H3 ((e.trans e2).trans e3) _ fun H4 e4 => ⟨a, u, rows, m, k, rfl, ho2.ex (e3.trans e4), fun H5 e5 => q H5 (((e2.trans e3).trans e4).trans e5)⟩⟩
theorem ev_isOdd {K : PySem.W.Frag} {σ : L2.St} {H : Hp} {ta tb : TE} {a : Addr} {u : List Str} {rows : List Int} {m : Int} (ha : Ev ta σ H (.ref a)) (ho : IsCr K H a u rows) (hb : Ev tb σ H (.int m)) : Ev (SlX.tMethSl (He.ga K "Crossings") (spOddOne K) E0 ta (tCons tb tNil)) σ H (.bl (isOddF rows u.length m)) := fun H1 e Q q =>
  ha H1 e _ fun H2 e2 => by
    have ho2 := ho.ex (e.trans e2)
    obtain ⟨dx, vs, hs⟩ := ho2.slt
    exact ⟨a, dx, vs, rfl, hs, hb H2 (e.trans e2) _ fun H3 e3 => ⟨a, u, rows, m, rfl, ho2.ex e3, fun H5 e5 => q H5 ((e2.trans e3).trans e5)⟩⟩
def spCleared (K : PySem.W.Frag) : Sp := fun vs H Q _ => ∃ a u rows m x y, vs = [.ref a, .int m, .int x, .int y] ∧ IsCr K H a u rows ∧ ∀ H', Ex H H' → Q (.int (clearedF rows u.length m x y)) H'
theorem sc_Crossings_cleared : FnScope ["self", "some", "one", "other", "found"] ["self", "some", "one", "other"] (defScope (mF "Crossings" "cleared" "Crossings.cleared" 33 7).st) := ⟨rfl, rfl, rfl, by decide +kernel, rfl, by decide +kernel, by decide +kernel⟩
theorem c_Crossings_cleared {P : Program} {w : World} {K : PySem.W.Frag} {mg : Str → Option Value} {base : Heap} (W : W0 K mg base) : Cal P w K mg base 3 (mF "Crossings" "cleared" "Crossings.cleared" 33 7) ["self", "some", "one", "other"] (spCleared K) := by
  refine Cal.of W 28 rfl sc_Crossings_cleared (fun vs H Q E h => ?len) (fun _ _ _ _ _ _ us hl => match us, hl with | [_, _, _, _], _ => rfl) (fun cdv A outer s H vs Q E hr h => ?body)
  case len => obtain ⟨_, _, _, _, _, _, rfl, _⟩ := h; rfl
  have nd := sc_Crossings_cleared.nd
  refine ⟨_, (pss_cons (ps_set (i := 4) nd rfl (Or.inl rfl) (pv 1))
      (pss_cons (ps_if (pt_val (k_methO K (pv 0) W 4 1 rfl rfl (c_Crossings_meets_oddly W) (hr.mono (by decide)) (pa_cons (pv 1) (pa_cons (pv 3) pa_nil)))) (pss_one (ps_aug (i := 4) nd rfl (Or.inl rfl) (pv 2) ip_xor)) pss_nil)
      (pss_cons (ps_if (pt_val (k_methO K (pv 0) W 4 1 rfl rfl (c_Crossings_meets_oddly W) (hr.mono (by decide)) (pa_cons (pv 1) (pa_cons (pv 2) pa_nil)))) (pss_one (ps_aug (i := 4) nd rfl (Or.inl rfl) (pv 3) ip_xor)) pss_nil)
      (pss_one (ps_ret (pv 4)))))), ?_⟩
  obtain ⟨a, u, rows, m, x, y, rfl, ho, q⟩ := h
  refine q_asg (ev_var rfl) fun H1 e1 => ?_
  unfold clearedF at q
  have snd : ∀ (z : Int) H2, Ex H H2 → (∀ H', Ex H H' → Q (.int (if oddly rows u.length m x then Builtin.bitXor z y else z)) H') → tSeq (tIfS (tTest (SlX.tMethSl (He.ga K "Crossings") (spOddly K) E0 (tVar 0) (tCons (tVar 1) (tCons (tVar 2) tNil)))) (tAug 4 (tVar 3) (ipI Builtin.bitXor)) tNext) (tRet (tVar 4)) { nx := fun x H' => Q V.non H', rt := Q } [some (.ref a), some (.int m), some (.int x), some (.int y), some (.int z)] H2 := fun z H2 e2 q2 => by
    refine q_when (et_test (ev_oddly (ev_var rfl) (ho.ex e2) (ev_var rfl) (ev_var rfl))) (fun hb H3 e3 => ?_) fun hb H3 e3 => ?_
    · rw [if_pos hb] at q2
      exact s_aug rfl (ev_var rfl) fun H4 e4 => s_ret (ev_var rfl) fun H5 e5 => q2 H5 (((e2.trans e3).trans e4).trans e5)
    · rw [if_neg (by rw [hb]; exact Bool.false_ne_true)] at q2
      exact s_ret (ev_var rfl) fun H5 e5 => q2 H5 ((e2.trans e3).trans e5)
  refine q_when (et_test (ev_oddly (ev_var rfl) (ho.ex e1) (ev_var rfl) (ev_var rfl))) (fun hb H2 e2 => ?_) fun hb H2 e2 => ?_
  · simp only [hb] at q
    exact s_aug rfl (ev_var rfl) fun H3 e3 => snd _ H3 ((e1.trans e2).trans e3) q
  · simp only [hb] at q
    exact snd _ H2 (e1.trans e2) q
theorem Sl.awayL {H : Hp} {a C dx p : Addr} {vs : List (Option V)} {xs : List V} {o : HO} (h : Sl H a C dx vs) (hp : H p = some (.lst xs)) : Sl (upd H p o) a C dx vs := by
  obtain ⟨oa, ha, _, _, a1, _⟩ := h.ata
  obtain ⟨od, hd, _, _, d1, _⟩ := h.atd
  have n1 : a ≠ p := by rintro rfl; rw [ha] at hp; exact a1 _ (Option.some.inj hp)
  have n2 : dx ≠ p := by rintro rfl; rw [hd] at hp; exact d1 _ (Option.some.inj hp)
  obtain ⟨h1, h2, h3⟩ := h
  refine ⟨?_, ?_, h3⟩
  · rcases h1 with ⟨z1, z2⟩ | ⟨z1, z2⟩
    · exact .inl ⟨by rw [upd_ne n1]; exact z1, z2⟩
    · exact .inr ⟨by rw [upd_ne n1]; exact z1, by rw [upd_ne n2]; exact z2⟩
  · rw [upd_ne n2]
    exact h2
theorem Sl.lst {H H' : Hp} {a C dx p : Addr} {vs : List (Option V)} {xs : List V} (h : Sl H a C dx vs) (k : Kx a dx H H') (hp : H p = some (.lst xs)) : H' p = some (.lst xs) := by
  obtain ⟨oa, ha, _, _, a1, _⟩ := h.ata
  obtain ⟨od, hd, _, _, d1, _⟩ := h.atd
  refine k _ _ ?_ ?_ hp
  · rintro rfl; rw [ha] at hp; exact a1 _ (Option.some.inj hp)
  · rintro rfl; rw [hd] at hp; exact d1 _ (Option.some.inj hp)
theorem Kx.mut {a dx p : Addr} {H H' : Hp} {o : HO} (k : Kx a dx H H') (hp : H p = none) : Kx a dx H (upd H' p o) := fun b o' h1 h2 h => by
  rw [upd_ne (by rintro rfl; rw [hp] at h; exact nomatch h)]
  exact k b o' h1 h2 h
theorem Sl.fresh {H H' : Hp} {a C dx p : Addr} {vs : List (Option V)} (h : Sl H' a C dx vs) (k : Kx a dx H H') (hp : H' p = none) : H p = none := by
  obtain ⟨oa, ha, _⟩ := h.ata
  obtain ⟨od, hd, _⟩ := h.atd
  cases hq : H p with
  | none => rfl
  | some o =>
    have := k p o (by rintro rfl; rw [ha] at hp; exact nomatch hp) (by rintro rfl; rw [hd] at hp; exact nomatch hp) hq
    rw [this] at hp
    exact nomatch hp
theorem ev_form {K : PySem.W.Frag} {σ : L2.St} {H : Hp} {ta tb tc : TE} {a : Addr} {u l : List Str} {x y : Str} (ha : Ev ta σ H (.ref a)) (ho : IsOrd K H a u l) (hb : Ev tb σ H (.str x)) (hc : Ev tc σ H (.str y)) (hx : x ∈ u) (hy : y ∈ u) : Ev (SlX.tMethSl (He.ga K "Order") (spForm K) E0 ta (tCons tb (tCons tc tNil))) σ H (.int (formI u l x y)) := fun H1 e Q q =>
  ha H1 e _ fun H2 e2 => by
    have ho2 := ho.ex (e.trans e2)
    obtain ⟨dx, vs, hs⟩ := ho2.slt
    exact ⟨a, dx, vs, rfl, hs, hb H2 (e.trans e2) _ fun H3 e3 => hc H3 ((e.trans e2).trans e3) _ fun H4 e4 => ⟨a, u, l, x, y, rfl, ho2.ex (e3.trans e4), hx, hy, fun H5 e5 => q H5 (((e2.trans e3).trans e4).trans e5)⟩⟩
theorem ev_sumLs {K : PySem.W.Frag} {σ : L2.St} {H : Hp} {ta : TE} {p : Addr} {ns : List Int} (h : Ev ta σ H (.ref p)) (hp : SqL K H p (ns.map V.int)) : Ev (tCB (rSum K) (tCons ta tNil)) σ H (.int ns.sum) := fun H1 e Q q =>
  h H1 e _ fun H2 e2 => ⟨p, ns, rfl, ex_l (e.trans e2) hp, q H2 e2⟩
theorem q_slM {K : PySem.W.Frag} {σ : L2.St} {H : Hp} {ta tv : TE} {ds : List PyData} {tz : TS} {D : Ends} {a C dx p : Addr} {f : Str} {i : Nat} {vs : List (Option V)} (h : EdL K tv σ H ds) (ha : Ev ta σ H (.ref a)) (hs : Sl H a C dx vs) (c : SlX.SCls K C) (t : SlX.Slot1 K C f p i)
    (k : ∀ q xs H', H q = none → Kx a dx H H' → Sl H' a C dx (SlX.putS i (.ref q) vs) → H' q = some (.lst xs) → Rps K H' xs ds → tz D σ H') : tSeq (SlX.sSl K ta tv f) tz D σ H :=
  h H (Ex.refl _) _ fun q xs H1 f1 e1 hq r => ha H1 e1 _ fun H2 e2 => ⟨a, C, dx, p, vs, i, rfl, slt_ex (e1.trans e2) hs.1, c, t, k q xs _ f1 ((Kx.ex (e1.trans e2)).trans Kx.sl) (hs.ex (e1.trans e2)).put ((hs.ex (e1.trans e2)).lst Kx.sl (e2 _ _ hq)) ((r.ex e2).up ((hs.ex (e1.trans e2)).tex Kx.sl))⟩
def spCrInit (K : PySem.W.Frag) : Sp := fun vs H Q _ => ∃ a dx ao u l, vs = [.ref a, .ref ao] ∧ Sl H a (He.ga K "Crossings") dx [] ∧ (∀ H', Kx a dx H H' → IsOrd K H' ao u l) ∧ ∀ H', Kx a dx H H' → IsCr K H' a u (rowsF u l) → Q .non H'
def cellD (u l : List Str) (x : Str) : PyData → PyData
  | .tuple [.int i, .str y] => .int ((if formI u l x y = 0 then (0 : Int) else 1) * 2 ^ i.toNat)
  | _ => .none
theorem cellD_map (u l : List Str) (x : Str) : (enD (u.map PyData.str)).map (cellD u l x) = ((List.range u.length).map fun i => (if formI u l x (u.getD i Str.empty) = 0 then (0 : Int) else 1) * 2 ^ i).map PyData.int := by
  unfold enD
  rw [List.map_map, List.map_map, List.length_map]
  refine List.map_congr_left fun i hi => ?_
  have hi := List.mem_range.mp hi
  show cellD u l x (.tuple [.int (i : Nat), (u.map PyData.str).getD i .none]) = _
  have e1 : (u.map PyData.str).getD i .none = .str (u.getD i Str.empty) := by
    rw [List.getD_eq_getElem?_getD, List.getElem?_map, List.getD_eq_getElem?_getD, List.getElem?_eq_getElem hi] <;> rfl
  rw [e1]
  show PyData.int (_ * 2 ^ (i : Int).toNat) = _
  rw [Int.toNat_natCast] <;> rfl
theorem sc_Crossings___init__ : FnScope ["self", "order", "one", "bits", "at", "other"] ["self", "order"] (defScope (mF "Crossings" "__init__" "Crossings.__init__" 33 1).st) := ⟨rfl, rfl, rfl, by decide +kernel, rfl, by decide +kernel, by decide +kernel⟩
theorem c_Crossings___init__ {P : Program} {w : World} {K : PySem.W.Frag} {mg : Str → Option Value} {base : Heap} (W : W0 K mg base) : Cal P w K mg base 4 (mF "Crossings" "__init__" "Crossings.__init__" 33 1) ["self", "order"] (spCrInit K) := by
  refine Cal.of W 23 rfl sc_Crossings___init__ (fun vs H Q E h => ?len) (fun _ _ _ _ _ _ us hl => match us, hl with | [_, _], _ => rfl) (fun cdv A outer s H vs Q E hr h => ?body)
  case len => obtain ⟨_, _, _, _, _, rfl, _⟩ := h; rfl
  have nd := sc_Crossings___init__.nd
  refine ⟨_, (pss_cons (SlX.ps_sl (pv 0) (k_prop K (pv 1) W 0 rfl (c_Order_above W) (hr.mono (by decide))))
      (pss_cons (SlX.ps_sl (pv 0) (pe_lst pa_nil))
      (pss_one (ps_for PassesOwn.never rfl (k_pi_tup K (k_prop K (pv 1) W 0 rfl (c_Order_above W) (hr.mono (by decide)))) (pg_name (i := 2) nd rfl (Or.inr rfl)) (pss_cons (ps_setLc (own := [("at", 4), ("other", 5)]) (g := (gTup K 2 (gCons (gName 4) (gCons (gName 5) gNil)))) (tt := tYes) (i := 3) rfl nd rfl rfl (sw_true rfl rfl rfl (by decide +kernel)) (pi_enumT rfl (W.f 9 rfl) (pa_cons (k_prop K (pv 1) W 0 rfl (c_Order_above W) (hr.mono (by decide))) pa_nil)) (blkOk_by (N := ["self", "order", "one", "bits", "at", "other"]) (sc := defScope (mF "Crossings" "__init__" "Crossings.__init__" 33 1).st) (by decide +kernel)) (fun _ _ _ _ _ => (pg_tup rfl (pgs_cons (pg_name (i := 4) nd rfl (by first | exact Or.inl rfl | exact Or.inr rfl)) (pgs_cons (pg_name (i := 5) nd rfl (by first | exact Or.inl rfl | exact Or.inr rfl)) pgs_nil)))) (fun _ _ _ _ _ => pts_nil) (fun _ _ _ _ _ => (pe_op op_shl (pe_callTy call_int1 rfl (W.f 4 rfl) bb_int (pa_cons (pe_cmpR op_ne (k_methO K (pv 1) W 0 0 rfl rfl (c_Order_form W) (hr.mono (by decide)) (pa_cons (pv 2) (pa_cons (pv 5) pa_nil))) pe_int (nomark _)) pa_nil)) (pv 4))))
      (pss_one (ps_expr (k_bm K PySem.F.plainAttrs_list PySem.F.slot_list_append PySem.F.type_list_append mt_append (k_sl K (pv 0)) (pa_cons (pe_callB (k_sum K rfl) rfl (W.f 17 rfl) bb_sum (pa_cons (pv 3) pa_nil)) pa_nil))))))))), ?_⟩
  obtain ⟨a, dx, ao, u, l, rfl, hs, hk, q⟩ := h
  have ho := hk H (Kx.refl H)
  have sC := W.sc 1 rfl
  have n6 := ho.ok.many
  have ab : ∀ {σ : L2.St} {H1 : Hp}, IsOrd K H1 ao u l → σ[1]? = some (some (.ref ao)) → Ed K (SlX.tPropSl (He.ga K "Order") (spO K anyO fun u _ => tS u) E0 (tVar 1)) σ H1 (tS u) := fun h hσ => ed_propO (f := fun u _ => tS u) (pre := anyO) (ev_var hσ) h trivial
  refine q_slD (ab ho rfl) (ev_var rfl) hs sC (W.sl 9 rfl) fun vu H1 k1 hs1 r1 => ?_
  replace hs1 : Sl H1 a (He.ga K "Crossings") dx [some vu] := hs1
  refine q_slM (K := K) edL_nil (ev_var rfl) hs1 sC (W.sl 10 rfl) fun lr xs H2 f2 k2 hs2 h2 r2 => ?_
  cases r2
  replace hs2 : Sl H2 a (He.ga K "Crossings") dx [some vu, some (.ref lr)] := hs2
  have k12 := k1.trans k2
  have fr : H lr = none := hs1.fresh k1 f2
  have rv2 : Rp K H2 vu (tS u) := r1.up (hs1.tex k2)
  refine s_forD (K := K) (edI_tup (ab (hk H2 k12) rfl)) (fun H5 i σ' H' => ∃ y2 y3, σ' = [some (.ref a), some (.ref ao), y2, y3, none, none] ∧ Kx a dx H H' ∧ TEx H5 H' ∧ Rp K H' vu (tS u) ∧ Sl H' a (He.ga K "Crossings") dx [some vu, some (.ref lr)] ∧ H' lr = some (.lst (((u.take i).map (rowF u l)).map V.int)))
    (fun H5 e5 => ⟨none, none, rfl, k12.trans (Kx.ex e5), TEx.refl _, rv2.ex e5, hs2.ex e5, e5 _ _ h2⟩) (fun H5 i σ' H' _ _ pv => by obtain ⟨_, _, _, _, t, _⟩ := pv; exact t) (fun H5 i d x σ' H' H'' e5 hd pv e6 rx => ?_) (fun H5 σ' H' e5 pv => ?_)
  · obtain ⟨y2, y3, rfl, kk, tt, rv, hs', hl'⟩ := pv
    have hi : i < u.length := by simpa using (List.getElem?_eq_some_iff.mp hd).1
    rw [List.getElem?_map, List.getElem?_eq_getElem hi] at hd
    cases hd
    cases rx
    have kk6 := kk.trans (Kx.ex e6)
    have ho6 := hk H'' kk6
    have mi : u[i] ∈ u := List.getElem_mem hi
    refine q_asgM (ds := (((List.range u.length).map fun j => (if formI u l u[i] (u.getD j Str.empty) = 0 then (0 : Int) else 1) * 2 ^ j)).map PyData.int) (edL_is (edL_map2 (K := K) (ws := [4, 5]) (j := 4) (k := 5) (cellD u l u[i]) (edI_enT (eds_cons (ab ho6 rfl) eds_nil)) (fun _ _ => exT) (by rw [enD_len, List.length_map]; omega) (fun _ _ => rfl) enD_pairs fun b c x y H7 e7 hm ra rb => ?_) (cellD_map u l u[i])) fun p ws H7 f7 e7 h7 r7 => ?_
    · obtain ⟨j, hj, rfl, rfl⟩ := mem_enS hm
      cases ra
      cases rb
      have my : u.getD j Str.empty ∈ u := by
        rw [List.getD_eq_getElem?_getD, List.getElem?_eq_getElem hj]
        exact List.getElem_mem hj
      refine ed_int (ev_is (ev_op (ev_intB (ev_op (ev_form (ev_var rfl) (ho6.ex e7) (ev_var rfl) (ev_var rfl) mi my) ev_c (rv_ne rfl))) (ev_var rfl) (rv_I ⟨by omega, by omega, ?_⟩)) ?_)
      · split <;> decide
      · refine congrArg V.int (congrArg (· * _) ?_)
        by_cases z : formI u l u[i] (u.getD j Str.empty) = 0
        · rw [if_pos z, z] <;> rfl
        · rw [if_neg z, if_pos (by simpa using z)]
    · have z := r7.ints
      subst z
      have hl7 := e7 _ _ (e6 _ _ hl')
      refine s_app hl7 (ev_slot (ev_var rfl) (hs'.ex (e6.trans e7)).1 sC (W.sl 10 rfl) rfl) (ev_sumLs (ev_var rfl) (sq_of h7)) (by rw [List.length_map, List.length_map, List.length_take]; omega) fun H8 e8 => ?_
      have e68 := (e6.trans e7).trans e8
      have hl8 := e68 _ _ hl'
      refine ⟨_, _, rfl, (kk.trans (Kx.ex e68)).mut fr, tt.trans ((exT e68).trans (TEx.lst hl8)), (rv.ex e68).up (TEx.lst hl8), (hs'.ex e68).awayL hl8, ?_⟩
      rw [upd_same, List.take_add_one, List.getElem?_eq_getElem hi]
      simp only [Option.toList_some, List.map_append, List.map_cons, List.map_nil]
      rfl
  · obtain ⟨y2, y3, rfl, kk, tt, rv, hs', hl'⟩ := pv
    refine q H' kk ⟨⟨n6, by unfold rowsF; rw [List.length_map]⟩, dx, _, vu, lr, hs'.1, rfl, rfl, rv, ?_⟩
    rw [List.length_map, List.take_of_length_le (Nat.le_refl _)] at hl'
    exact hl'
end PR
end
section
set_option Elab.async false
set_option linter.all false
set_option maxRecDepth 100000
set_option maxHeartbeats 4000000
/-! Rounds. -/
namespace PR
open PySem PySem.Spec PyProof.Rows L2 Evl
section
variable {K : PySem.W.Frag} {σ : L2.St} {H : Hp} {ta tb te : TE} {ds es : List PyData} {tr : TA}
theorem all_flat_strs (ss : List Str) : (ss.map V.str).all flatV = true := by
  rw [List.all_eq_true]
  intro v hv
  obtain ⟨s, _, rfl⟩ := List.mem_map.mp hv
  rfl
theorem ev_indexS {p : Addr} {ss : List Str} {y : Str} (h : Ev ta σ H (.ref p)) (hs : SqL K H p (ss.map V.str)) (hb : Ev tb σ H (.str y)) (hy : y ∈ ss) : Ev (tBM K "list" (rIndex K) ta (tCons tb tNil)) σ H (.int (ss.idxOf y : Nat)) := fun H1 e Q q =>
  h H1 e _ fun H2 e2 => ⟨Or.inl ⟨rfl, _, ex_l (e.trans e2) hs⟩, hb H2 (e.trans e2) _ fun H3 e3 => by
    have hi := List.idxOf_lt_length_iff.mpr hy
    refine ⟨p, ss.map V.str, .str y, ss.idxOf y, .str y, rfl, rfl, ex_l ((e.trans e2).trans e3) hs, rfl, all_flat_strs ss, ?_, ?_, fun m z' hm hz => ?_, q H3 (e2.trans e3)⟩
    · rw [List.getElem?_map, List.getElem?_eq_getElem hi, List.getElem_idxOf] <;> rfl
    · simp [eqV]
    · rw [List.getElem?_map, List.getElem?_eq_getElem (by omega)] at hz
      cases hz
      have := List.not_of_lt_findIdx (p := (· == y)) (xs := ss) (i := m) hm
      show (ss[m] == y) = false
      exact this⟩
theorem eds_starL {p : Addr} {vs : List V} (h : Ev te σ H (.ref p)) (hs : SqL K H p vs) (rs : Rps K H vs ds) (hr : Eds K tr σ H es) : Eds K (StX.tStar K te tr) σ H (ds ++ es) := fun H1 e Q q =>
  h H1 e _ fun H2 e2 => ⟨p, vs, rfl, .inr (ex_l (e.trans e2) hs), hr H2 (e.trans e2) _ fun ys H3 e3 r3 => q _ H3 (e2.trans e3) ((rs.ex ((e.trans e2).trans e3)).app r3)⟩
theorem eds_starN (h : EdL K te σ H ds) (hr : ∀ H1, Ex H H1 → Eds K tr σ H1 es) : Eds K (StX.tStar K te tr) σ H (ds ++ es) := fun H1 e Q q =>
  h H1 e _ fun p vs H2 f2 e2 h2 r2 => ⟨p, vs, rfl, .inr (sq_of h2), hr H2 (e.trans e2) H2 (Ex.refl _) _ fun ys H3 e3 r3 => q _ H3 (e2.trans e3) ((r2.ex e3).app r3)⟩
end
theorem q_parKV {σ : L2.St} {H : Hp} {ta tb : TE} {tz : TS} {D : Ends} {i j : Nat} {kvs : List (Key × V)} {v : V} (h1 : EvK ta σ H kvs) (h2 : Ev tb σ H v) (k : ∀ p H1 H2, H p = none → Ex H H1 → Ex H1 H2 → H1 p = some (.dK kvs) → tz D ((σ.set i (some (.ref p))).set j (some v)) H2) : tSeq (tPar i j (tCons ta (tCons tb tNil))) tz D σ H :=
  h1 H (Ex.refl _) _ fun p H1 f1 e1 hp => h2 H1 e1 _ fun H2 e2 => ⟨_, _, rfl, k p H1 H2 f1 e1 e2 hp⟩
theorem q_asgT2 {K : PySem.W.Frag} {σ : L2.St} {H : Hp} {te : TE} {tz : TS} {D : Ends} {i j : Nat} {d d2 : PyData} (h : Ed K te σ H (.tuple [d, d2])) (k : ∀ v w H1, Ex H H1 → Rp K H1 v d → Rp K H1 w d2 → tz D ((σ.set i (some v)).set j (some w)) H1) : tSeq (tAsg te (gTup K 2 (gCons (gName i) (gCons (gName j) gNil)))) tz D σ H :=
  h H (Ex.refl _) _ fun x H1 e1 r => g_pair r fun v w rv rw' => k v w H1 e1 rv rw'
def wholeR (u l : List Str) : Bool := (List.range (u.length - 1)).all (fun i => decide (mostAt (plc u l) (i + 1) ≠ (i : Int))) && decide ((1 : Int) < u.length)
def spRows (K : PySem.W.Frag) (f : List Str → List Str → PyData) : Sp := fun vs H Q _ => ∃ x y u l, vs = [x, y] ∧ Rp K H x (tS u) ∧ Rp K H y (tS l) ∧ RowsOk u l ∧ ∀ v H', Ex H H' → Rp K H' v (f u l) → Q v H'
theorem all_range_succ (f : Nat → Bool) (i : Nat) : (List.range (i + 1)).all f = ((List.range i).all f && f i) := by
  rw [List.range_succ, List.all_append, List.all_cons, List.all_nil, Bool.and_true]
theorem range_all_at {f : Nat → Bool} {i n : Nat} (hi : i < n) (h : f i = false) : (List.range n).all f = false := by
  rw [← Bool.not_eq_true, List.all_eq_true]
  intro z
  rw [z i (List.mem_range.mpr hi)] at h
  exact Bool.noConfusion h
theorem sc_are_whole_rows : FnScope ["upper", "lower", "at", "name", "places", "greatest"] ["upper", "lower"] (defScope (gF "are_whole_rows" 44).st) := ⟨rfl, rfl, rfl, by decide +kernel, rfl, by decide +kernel, by decide +kernel⟩
theorem c_are_whole_rows {P : Program} {w : World} {K : PySem.W.Frag} {mg : Str → Option Value} {base : Heap} (W : W0 K mg base) : Cal P w K mg base 1 (gF "are_whole_rows" 44) ["upper", "lower"] (spRows K fun u l => .bool (wholeR u l)) := by
  refine Cal.of W 33 rfl sc_are_whole_rows (fun vs H Q E h => ?len) (fun _ _ _ _ _ _ us hl => match us, hl with | [_, _], _ => rfl) (fun cdv A outer s H vs Q E hr h => ?body)
  case len => obtain ⟨_, _, _, _, rfl, _⟩ := h; rfl
  have nd := sc_are_whole_rows.nd
  refine ⟨_, (pss_cons (ps_par (i := 4) (j := 5) rfl nd rfl rfl (by decide) rfl rfl (pa_cons (pe_dc (own := [("at", 2), ("name", 3)]) (g := (gTup K 2 (gCons (gName 2) (gCons (gName 3) gNil)))) (tt := tYes) rfl nd (pi_enumT rfl (W.f 9 rfl) (pa_cons (pv 1) pa_nil)) (blkOk_by (N := ["upper", "lower", "at", "name", "places", "greatest"]) (sc := defScope (gF "are_whole_rows" 44).st) (by decide +kernel)) (fun _ _ _ _ _ => (pg_tup rfl (pgs_cons (pg_name (i := 2) nd rfl (by first | exact Or.inl rfl | exact Or.inr rfl)) (pgs_cons (pg_name (i := 3) nd rfl (by first | exact Or.inl rfl | exact Or.inr rfl)) pgs_nil)))) (fun _ _ _ _ _ => pts_nil) (fun _ _ _ _ _ => (pv 3)) (fun _ _ _ _ _ => (pv 2))) (pa_cons (pe_un un_neg pe_int) pa_nil)) rfl)
      (pss_cons (ps_for PassesOwn.never rfl (pi_enumT rfl (W.f 9 rfl) (pa_cons (pe_slice (k_slT K) (pv 0) po_none (po_some (pe_un un_neg pe_int))) pa_nil)) (pg_tup rfl (pgs_cons (pg_name (i := 2) nd rfl (Or.inl rfl)) (pgs_cons (pg_name (i := 3) nd rfl (Or.inl rfl)) pgs_nil))) (pss_cons (ps_set (i := 5) nd rfl (Or.inl rfl) (pe_callB (call_max2 rfl) rfl (W.f 12 rfl) bb_max (pa_cons (pv 5) (pa_cons (pe_dget (hu_of hr) (pv 4) (pv 3) (fun _ _ => rfl)) pa_nil))))
      (pss_one (ps_if (pt_cmpR op_eq (pv 5) (pv 2) (nomark _)) (pss_one (ps_ret pe_bl)) pss_nil))))
      (pss_one (ps_ret (pe_cmpR op_gt (pe_callB (k_len K) rfl (W.f 0 rfl) bb_len (pa_cons (pv 0) pa_nil)) pe_int (nomark _)))))), ?_⟩
  obtain ⟨x, y, u, l, rfl, hu, hl, ok, q⟩ := h
  have n1 := ok.up.len1
  have n6 := ok.many
  have nl : l.length = u.length := ok.pm.length_eq
  have ml : ∀ z ∈ u, z ∈ l := fun z hz => ok.pm.mem_iff.mpr hz
  refine q_parKV (evK_enum (K := K) (g := fun i => .int (i : Nat)) (eds_cons (ed_var rfl hl) eds_nil) ok.low.nd (by omega) (fun _ _ => rfl) (fun _ _ => rfl) fun i x H5 => ev_var rfl) (ev_un ev_c ru_neg : Ev _ _ H (.int (-1))) fun p H1 H2 f1 e1 e2 h1 => ?_
  have e12 := e1.trans e2
  have h2 := e2 _ _ h1
  have hlen : ((u.map PyData.str).dropLast).length = u.length - 1 := by rw [List.length_dropLast, List.length_map]
  refine q_forD (K := K) (edI_enT (ds := (u.map PyData.str).dropLast) (eds_cons (ed_is (ed_sl (ed_var rfl (hu.ex e12)) eo_none (eo_some (ev_un ev_c ru_neg))) (congrArg _ (cutL_init _))) eds_nil))
    (fun H5 i σ' H' => ∃ y4 y5, σ' = [some x, some y, y4, y5, some (.ref p), some (.int (mostAt (plc u l) i))] ∧ Ex H2 H' ∧ TEx H5 H' ∧ (List.range i).all (fun i => decide (mostAt (plc u l) (i + 1) ≠ (i : Int))) = true)
    (fun H5 e5 => ⟨none, none, rfl, e5, TEx.refl _, rfl⟩) (fun H5 i σ' H' _ _ pv => by obtain ⟨_, _, _, _, t, _⟩ := pv; exact t) (fun H5 i d z σ' H' H'' e5 hd pv e6 rx => ?_) (fun H5 σ' H' e5 pv => ?_)
  · obtain ⟨y4, y5, rfl, eH, tH, ha⟩ := pv
    have hi : i < u.length - 1 := by
      have := (List.getElem?_eq_some_iff.mp hd).1
      rwa [enD_len, hlen] at this
    have hi' : i < u.length := by omega
    have hgi : ((u.map PyData.str).dropLast)[i]? = some (.str u[i]) := by
      rw [List.getElem?_dropLast, if_pos (by rw [List.length_map]; exact hi), List.getElem?_map, List.getElem?_eq_getElem hi'] <;> rfl
    rw [enD_at hgi] at hd
    cases hd
    refine g_pair rx fun v1 v2 r1 r2 => ?_
    cases r1
    cases r2
    have mi : u[i] ∈ u := List.getElem_mem hi'
    have eq : Ex H2 H'' := eH.trans e6
    have hm : mostAt (plc u l) (i + 1) = if pos l u[i] > mostAt (plc u l) i then pos l u[i] else mostAt (plc u l) i := by
      have e0 : (plc u l).getD i 0 = pos l u[i] := by
        unfold plc
        rw [List.getD_eq_getElem?_getD, List.getElem?_map, List.getElem?_eq_getElem hi'] <;> rfl
      show (if (plc u l).getD i 0 > _ then (plc u l).getD i 0 else _) = _
      rw [e0]
    refine q_asg (v := .int (mostAt (plc u l) (i + 1))) (ev_is (ev_max2 (ev_var rfl) (ev_dget (k := Sum.inr u[i]) (ev_var rfl) (eq _ _ h2) (ev_var rfl) (namK_val (ml _ mi)))) (by rw [hm] <;> rfl)) fun H4 e4 => ?_
    have t4 : TEx H5 H4 := (tH.trans (exT e6)).trans (exT e4)
    refine s_when (b := decide (mostAt (plc u l) (i + 1) = (i : Int))) (et_is (et_test (ev_op (ev_var rfl) (ev_var rfl) (rv_eq rfl))) (by rw [dec_int, Bool.eq_iff_iff]; simp)) (fun hb H5 e5 => ?_) (fun hb H5 e5 => ?_)
    · refine s_retD (d := .bool (wholeR u l)) (ed_bl (ev_is ev_c ?_)) fun v H6 e6 r => q v H6 ((((e12.trans eq).trans e4).trans e5).trans e6) r
      unfold wholeR
      rw [range_all_at hi (by simpa using hb)] <;> rfl
    · refine ⟨_, _, rfl, (eq.trans e4).trans e5, t4.trans (exT e5), ?_⟩
      rw [all_range_succ, ha]
      simpa using hb
  · obtain ⟨y4, y5, rfl, eH, tH, ha⟩ := pv
    refine s_retD (d := .bool (wholeR u l)) (ed_bl (ev_is (ev_op (ev_lenT (ed_var rfl (hu.ex (e12.trans eH)))) ev_c rv_I0) ?_)) fun v H6 e6 r => q v H6 ((e12.trans eH).trans e6) r
    rw [enD_len, hlen] at ha
    unfold wholeR
    rw [ha, Bool.true_and, List.length_map]
def putB (row : List Str) (x y : Str) : List Str := (row.filter fun z => z != x).take ((row.filter fun z => z != x).idxOf y + 1) ++ x :: (row.filter fun z => z != x).drop ((row.filter fun z => z != x).idxOf y + 1)
def spPut (K : PySem.W.Frag) : Sp := fun vs H Q _ => ∃ r row x y, vs = [r, .str x, .str y] ∧ Rp K H r (tS row) ∧ row.length ≤ 100 ∧ y ∈ row ∧ y ≠ x ∧ ∀ v H', Ex H H' → Rp K H' v (tS (putB row x y)) → Q v H'
theorem sc_put_behind : FnScope ["row", "name", "other", "left", "at", "one"] ["row", "name", "other"] (defScope (gF "put_behind" 45).st) := ⟨rfl, rfl, rfl, by decide +kernel, rfl, by decide +kernel, by decide +kernel⟩
theorem c_put_behind {P : Program} {w : World} {K : PySem.W.Frag} {mg : Str → Option Value} {base : Heap} (W : W0 K mg base) : Cal P w K mg base 1 (gF "put_behind" 45) ["row", "name", "other"] (spPut K) := by
  refine Cal.of W 34 rfl sc_put_behind (fun vs H Q E h => ?len) (fun _ _ _ _ _ _ us hl => match us, hl with | [_, _, _], _ => rfl) (fun cdv A outer s H vs Q E hr h => ?body)
  case len => obtain ⟨_, _, _, _, rfl, _⟩ := h; rfl
  have nd := sc_put_behind.nd
  refine ⟨_, (pss_cons (ps_setLc (own := [("one", 5)]) (g := (gName 5)) (i := 3) rfl nd rfl rfl (sw_true rfl rfl rfl (by decide +kernel)) (k_pi_tup K (pv 0)) (blkOk_by (N := ["row", "name", "other", "left", "at", "one"]) (sc := defScope (gF "put_behind" 45).st) (by decide +kernel)) (fun _ _ _ _ _ => (pg_name (i := 5) nd rfl (by first | exact Or.inl rfl | exact Or.inr rfl))) (fun _ _ _ _ _ => (pts_one (pt_cmpR op_ne (pv 5) (pv 1) (nomark _)))) (fun _ _ _ _ _ => (pv 5)))
      (pss_cons (ps_set (i := 4) nd rfl (Or.inl rfl) (pe_op op_add (k_bm K PySem.F.plainAttrs_list PySem.F.slot_list_index PySem.F.type_list_index (k_index K) (pv 3) (pa_cons (pv 2) pa_nil)) pe_int))
      (pss_one (ps_ret (pe_tup (k_star K (pe_slice (k_slL K) (pv 3) po_none (po_some (pv 4))) (pa_cons (pv 1) (k_star K (pe_slice (k_slL K) (pv 3) (po_some (pv 4)) po_none) pa_nil)))))))), ?_⟩
  obtain ⟨r, row, x, y, rfl, hr0, hz, hy, hne, q⟩ := h
  have hfl : ((row.map PyData.str).filter fun d => match d with | .str z => z != x | _ => false).map id = (row.filter fun z => z != x).map PyData.str := by
    rw [List.map_id, List.filter_map] <;> rfl
  have hfz : (row.filter fun z => z != x).length ≤ 100 := Nat.le_trans (List.length_filter_le _ _) hz
  have hyl : y ∈ row.filter fun z => z != x := List.mem_filter.mpr ⟨hy, by simpa using hne⟩
  refine q_asgM (edL_is (edL_flt (K := K) (ws := [5]) (j := 5) (fun d => match d with | .str z => z != x | _ => false) id (edI_tup (ed_var rfl hr0)) (fun _ _ => exT) (by rw [List.length_map]; omega) (fun _ => rfl) fun d v H1 e1 hm rr => ?_) hfl) fun p ws H1 f1 e1 h1 r1 => ?_
  · obtain ⟨z, _, rfl⟩ := List.mem_map.mp hm
    cases rr
    refine ⟨et_is (et_test (ev_op (ev_var rfl) (ev_var rfl) (rv_ne rfl))) ?_, fun _ => ed_str (ev_var rfl)⟩
    show (!decide (V.str z = V.str x)) = (z != x)
    rw [dec_str, Bool.eq_iff_iff]
    simp
  · have z := r1.strs
    subst z
    refine q_asg (v := .int (((row.filter fun z => z != x).idxOf y + 1 : Nat) : Int)) (ev_is (ev_op (ev_indexS (ev_var rfl) (sq_of h1) (ev_var rfl) hyl) ev_c rv_I0) (by rfl)) fun H2 e2 => ?_
    have h2 := e2 _ _ h1
    refine s_retD (d := tS (putB row x y)) (ed_is (ed_tup (eds_starN (edL_sl (ev_var rfl) (sq_of h2) (rps_strs _) eo_none (eo_some (ev_var rfl))) fun H3 e3 => eds_cons (ed_str (ev_var rfl)) (eds_starN (edL_sl (ev_var rfl) (sq_of (e3 _ _ h2)) (rps_strs _) (eo_some (ev_var rfl)) eo_none) fun H4 e4 => eds_nil)) ?_) ?_) fun v H3 e3 rr => q v H3 ((e1.trans e2).trans e3) rr
    · rw [cutL_to, cutL_from]
      simp only [List.length_append, List.length_cons, List.length_take, List.length_drop, List.length_map, List.length_nil]
      omega
    · rw [cutL_to, cutL_from, List.append_nil]
      unfold putB tS
      rw [List.map_append, List.map_cons, List.map_take, List.map_drop]
def kindS (k : Bool) : Str := if k then "upper" else "lower"
def ledF (k : Bool) (u l : List Str) : List Str × List Str := if k then (u, putB l (l.getLastD Str.empty) (u.getLastD Str.empty)) else (putB u (u.getLastD Str.empty) (l.getLastD Str.empty), l)
def spLed (K : PySem.W.Frag) : Sp := fun vs H Q _ => ∃ x y u l k, vs = [x, y, .str (kindS k)] ∧ Rp K H x (tS u) ∧ Rp K H y (tS l) ∧ RowsOk u l ∧ u.getLastD Str.empty ≠ l.getLastD Str.empty ∧
  ∀ v H', Ex H H' → Rp K H' v (.tuple [tS (ledF k u l).1, tS (ledF k u l).2]) → Q v H'
theorem atI_strs_last {u : List Str} (h : u ≠ []) : atI (u.map PyData.str) (-1) = some (.str (u.getLastD Str.empty)) := by
  obtain ⟨r, z, rfl⟩ := List.eq_nil_or_concat u |>.resolve_left h
  rw [List.concat_eq_append, List.map_append]
  simp only [List.map_cons, List.map_nil]
  rw [atI_last]
  simp
theorem mem_last {u : List Str} (h : u ≠ []) : u.getLastD Str.empty ∈ u := by
  obtain ⟨r, z, rfl⟩ := List.eq_nil_or_concat u |>.resolve_left h
  simp
theorem ed_put {K : PySem.W.Frag} {σ : L2.St} {H : Hp} {ta tb tc : TE} {row : List Str} {x y : Str} (ha : Ed K ta σ H (tS row)) (hb : Ev tb σ H (.str x)) (hc : Ev tc σ H (.str y)) (hz : row.length ≤ 100) (hy : y ∈ row) (hne : y ≠ x) : Ed K (tCall (spPut K) [] E0 (tCons ta (tCons tb (tCons tc tNil)))) σ H (tS (putB row x y)) := fun H1 e Q q =>
  ha H1 e _ fun v H2 e2 r => hb H2 (e.trans e2) _ fun H3 e3 => hc H3 ((e.trans e2).trans e3) _ fun H4 e4 => ⟨v, row, x, y, rfl, (r.ex e3).ex e4, hz, hy, hne, fun w H5 e5 rr => q w H5 (((e2.trans e3).trans e4).trans e5) rr⟩
theorem sc_led_rows : FnScope ["upper", "lower", "kind", "above", "below", "name"] ["upper", "lower", "kind"] (defScope (gF "led_rows" 46).st) := ⟨rfl, rfl, rfl, by decide +kernel, rfl, by decide +kernel, by decide +kernel⟩
theorem c_led_rows {P : Program} {w : World} {K : PySem.W.Frag} {mg : Str → Option Value} {base : Heap} (W : W0 K mg base) : Cal P w K mg base 2 (gF "led_rows" 46) ["upper", "lower", "kind"] (spLed K) := by
  refine Cal.of W 35 rfl sc_led_rows (fun vs H Q E h => ?len) (fun _ _ _ _ _ _ us hl => match us, hl with | [_, _, _], _ => rfl) (fun cdv A outer s H vs Q E hr h => ?body)
  case len => obtain ⟨_, _, _, _, _, rfl, _⟩ := h; rfl
  have nd := sc_led_rows.nd
  refine ⟨_, (pss_cons (ps_asg (pe_tup (pa_cons (pe_ix (k_ixT K) (pv 0) (pe_un un_neg pe_int) (fun _ _ => rfl)) (pa_cons (pe_ix (k_ixT K) (pv 1) (pe_un un_neg pe_int) (fun _ _ => rfl)) pa_nil))) (pg_tup rfl (pgs_cons (pg_name (i := 3) nd rfl (Or.inr rfl)) (pgs_cons (pg_name (i := 4) nd rfl (Or.inr rfl)) pgs_nil))))
      (pss_cons (ps_if (pt_cmpR op_eq (pv 2) (pe_gs rfl (W.s 1 rfl)) (nomark _)) (pss_one (ps_ret (pe_tup (pa_cons (pv 0) (pa_cons (k_cal K (c_put_behind W) (hr.mono (by decide)) rfl (W.g 23 rfl) (pa_cons (pv 1) (pa_cons (pv 4) (pa_cons (pv 3) pa_nil)))) pa_nil))))) pss_nil)
      (pss_cons (ps_if (pt_cmpR op_eq (pv 2) (pe_gs rfl (W.s 2 rfl)) (nomark _)) (pss_one (ps_ret (pe_tup (pa_cons (k_cal K (c_put_behind W) (hr.mono (by decide)) rfl (W.g 23 rfl) (pa_cons (pv 0) (pa_cons (pv 3) (pa_cons (pv 4) pa_nil)))) (pa_cons (pv 1) pa_nil))))) pss_nil)
      (pss_one (ps_ret (pe_tup (pa_cons (pe_slice (k_slT K) (pv 0) po_none (po_some (pe_un un_neg pe_int))) (pa_cons (pe_callTy (k_tuple K) rfl (W.f 2 rfl) bb_tuple (pa_cons (pe_lc (own := [("name", 5)]) (g := (gName 5)) (tt := tYes) rfl nd (k_pi_tup K (pe_slice (k_slT K) (pv 1) po_none (po_some (pe_un un_neg pe_int)))) (blkOk_by (N := ["upper", "lower", "kind", "above", "below", "name"]) (sc := defScope (gF "led_rows" 46).st) (by decide +kernel)) (fun _ _ _ _ _ => (pg_name (i := 5) nd rfl (by first | exact Or.inl rfl | exact Or.inr rfl))) (fun _ _ _ _ _ => pts_nil) (fun _ _ _ _ _ => (pe_ifExp (pt_cmpR op_eq (pv 5) (pv 3) (nomark _)) (pv 4) (pv 5)))) pa_nil)) pa_nil)))))))), ?_⟩
  obtain ⟨x, y, u, l, k, rfl, hu, hl, ok, hne, q⟩ := h
  have n6 := ok.many
  have nl : l.length = u.length := ok.pm.length_eq
  have n1 := ok.up.len1
  have un : u ≠ [] := fun z => by rw [z] at n1; simp at n1
  have ln : l ≠ [] := fun z => by rw [z] at nl; simp at nl; omega
  refine q_asgT2 (K := K) (ed_tup (eds_cons (ed_ixT (ed_var rfl hu) (ev_un ev_c ru_neg) (atI_strs_last un)) (eds_cons (ed_ixT (ed_var rfl hl) (ev_un ev_c ru_neg) (atI_strs_last ln)) eds_nil)) (by show 2 ≤ 100000; decide)) fun v w H1 e1 r1 r2 => ?_
  cases r1
  cases r2
  have k1 : ("upper" : Str) ≠ ("lower" : Str) := by decide +kernel
  cases k with
  | true =>
    refine q_when (b := true) (et_is (et_test (ev_op (ev_var rfl) ev_c (rv_eq rfl))) (by simp [kindS])) (fun _ H2 e2 => ?_) (fun z => nomatch z)
    refine s_retD (ed_tup (eds_cons (ed_var rfl ((hu.ex e1).ex e2)) (eds_cons (ed_put (ed_var rfl ((hl.ex e1).ex e2)) (ev_var rfl) (ev_var rfl) (by omega) (ok.pm.mem_iff.mpr (mem_last un)) hne) eds_nil)) (by show 2 ≤ 100000; decide)) fun v H3 e3 rr => q v H3 ((e1.trans e2).trans e3) rr
  | false =>
    refine q_when (b := false) (et_is (et_test (ev_op (ev_var rfl) ev_c (rv_eq rfl))) (by simp [kindS, Ne.symm k1])) (fun z => nomatch z) (fun _ H2 e2 => ?_)
    refine q_when (b := true) (et_is (et_test (ev_op (ev_var rfl) ev_c (rv_eq rfl))) (by simp [kindS])) (fun _ H3 e3 => ?_) (fun z => nomatch z)
    refine s_retD (ed_tup (eds_cons (ed_put (ed_var rfl (((hu.ex e1).ex e2).ex e3)) (ev_var rfl) (ev_var rfl) (by omega) (ok.pm.mem_iff.mp (mem_last ln)) (Ne.symm hne)) (eds_cons (ed_var rfl (((hl.ex e1).ex e2).ex e3)) eds_nil)) (by show 2 ≤ 100000; decide)) fun v H4 e4 rr => q v H4 (((e1.trans e2).trans e3).trans e4) rr
def spKinds (K : PySem.W.Frag) : Sp := fun vs H Q _ => ∃ (v : V) (ks : List Bool), vs = [v] ∧ Rp K H v (tS (ks.map kindS)) ∧ ks.length ≤ 1000 ∧ ∀ H', Ex H H' → Q (.bl true) H'
theorem all_true_of {α : Type} (l : List α) : (l.map fun _ => true).all id = true := by
  rw [List.all_eq_true]
  intro b hb
  obtain ⟨_, _, rfl⟩ := List.mem_map.mp hb
  rfl
theorem kind_in (k : Bool) : inV (.str (kindS k)) [.str "upper", .str "lower", .str "even"] = true := by cases k <;> decide +kernel
theorem kind_in2 (k : Bool) : inV (.str (kindS k)) [.str "upper", .str "lower"] = true := by cases k <;> decide +kernel
theorem sc_is_kinds : FnScope ["value", "kind"] ["value"] (defScope (gF "is_kinds" 47).st) := ⟨rfl, rfl, rfl, by decide +kernel, rfl, by decide +kernel, by decide +kernel⟩
theorem c_is_kinds {P : Program} {w : World} {K : PySem.W.Frag} {mg : Str → Option Value} {base : Heap} (W : W0 K mg base) : Cal P w K mg base 1 (gF "is_kinds" 47) ["value"] (spKinds K) := by
  refine Cal.of W 36 rfl sc_is_kinds (fun vs H Q E h => ?len) (fun _ _ _ _ _ _ us hl => match us, hl with | [_], _ => rfl) (fun cdv A outer s H vs Q E hr h => ?body)
  case len => obtain ⟨_, _, rfl, _⟩ := h; rfl
  have nd := sc_is_kinds.nd
  refine ⟨_, (pss_cons (ps_if (PW.pt (pw_or (pt_not (pt_val (pe_callB (k_isi K) rfl (W.f 1 rfl) bb_isinstance (pa_cons (pv 0) (pa_cons (pe_bltn rfl (W.f 2 rfl) bb_tuple relTy) pa_nil))))) (pw_or1 (pt_cmpR op_gt (pe_callB (k_len K) rfl (W.f 0 rfl) bb_len (pa_cons (pv 0) pa_nil)) (pe_gi rfl (W.i 2 rfl)) (nomark _))))) (pss_one (ps_ret pe_bl)) pss_nil)
      (pss_one (ps_ret (pe_callB (k_all K rfl) rfl (W.f 6 rfl) bb_all (pa_cons (pe_lc (own := [("kind", 1)]) (g := (gName 1)) (tt := tYes) rfl nd (k_pi_tup K (pv 0)) (blkOk_by (N := ["value", "kind"]) (sc := defScope (gF "is_kinds" 47).st) (by decide +kernel)) (fun _ _ _ _ _ => (pg_name (i := 1) nd rfl (by first | exact Or.inl rfl | exact Or.inr rfl))) (fun _ _ _ _ _ => pts_nil) (fun _ _ _ _ _ => (pe_and (pe_callB (k_isi K) rfl (W.f 1 rfl) bb_isinstance (pa_cons (pv 1) (pa_cons (pe_bltn rfl (W.f 3 rfl) bb_str relTy) pa_nil))) (pe_one (pe_cmpR (k_in K) (pv 1) (pe_glob rfl (W.g 63 rfl) relRef) (by with_unfolding_all rfl)))))) pa_nil))))), ?_⟩
  obtain ⟨v, ks, rfl, hv, hz, q⟩ := h
  refine q_when (b := false) (et_is (et_or (et_not (et_B (ev_isi .tuple (ed_var rfl hv) ev_c rfl))) fun _ => et_test (ev_op (ev_lenT (ed_var rfl hv)) ev_c rv_I0)) ?_) (fun z => nomatch z) fun _ H1 e1 => ?_
  · rw [List.length_map, List.length_map]
    exact decide_eq_false (by omega)
  · refine s_ret (ev_all (bs := ks.map fun _ => true) (edL_is (edL_map (K := K) (ws := [1]) (j := 1) (fun _ => .bool true) (edI_tup (ed_var rfl (hv.ex e1))) (fun _ _ => exT) (by rw [List.length_map, List.length_map]; omega) (fun _ => rfl) fun d x H2 e2 hm r => ?_) ?_) (all_true_of ks)) fun H2 e2 => q H2 (e1.trans e2)
    · obtain ⟨z, hz, rfl⟩ := List.mem_map.mp hm
      obtain ⟨k, _, rfl⟩ := List.mem_map.mp hz
      cases r
      exact ed_bl (ev_andV (a := true) (b := true) (ev_isi .str (ed_var rfl (.str _)) ev_c rfl) fun _ => ev_is (ev_op (ev_var rfl) ev_c (rv_isT (W.kinds _) rfl rfl)) (congrArg V.bl (kind_in k)))
    · simp [List.map_map]
end PR
end
section
set_option Elab.async false
set_option linter.all false
set_option maxRecDepth 100000
set_option maxHeartbeats 4000000
/-! Walks. -/
namespace PR
open PySem PySem.Spec PyProof.Rows L2 Evl
def nextI (k : Bool) (ns : List Int) : List Int :=
  if k then (List.range ns.length).map fun i => if i = ns.idxOf ((ns.length : Int) - 1) then ns.getLastD 0 + 1 else ns.getD i 0 + (if ns.getD i 0 > ns.getLastD 0 then 1 else 0)
  else ns.take (ns.idxOf ((ns.length : Int) - 1) + 1) ++ ns.getLastD 0 :: (ns.take (ns.length - 1)).drop (ns.idxOf ((ns.length : Int) - 1) + 1)
def spNext (K : PySem.W.Frag) : Sp := fun vs H Q _ => ∃ v ns k, vs = [v, .str (kindS k)] ∧ XT H v ns ∧ ns.length ≤ 100 ∧ ((ns.length : Int) - 1) ∈ ns ∧ ∀ v' H', Ex H H' → XT H' v' (nextI k ns) → Q v' H'
theorem atI_ints_last {u : List Int} (h : u ≠ []) : atI (u.map PyData.int) (-1) = some (.int (u.getLastD 0)) := by
  obtain ⟨r, z, rfl⟩ := List.eq_nil_or_concat u |>.resolve_left h
  rw [List.concat_eq_append, List.map_append]
  simp only [List.map_cons, List.map_nil]
  rw [atI_last]
  simp
theorem mem_enI {ns : List Int} {a b : PyData} (h : (.tuple [a, b]) ∈ enD (ns.map PyData.int)) : ∃ i, i < ns.length ∧ a = .int (i : Nat) ∧ b = .int (ns.getD i 0) := by
  unfold enD at h
  obtain ⟨i, hi, e⟩ := List.mem_map.mp h
  have hi := List.mem_range.mp hi
  rw [List.length_map] at hi
  injection e with e
  injection e with e1 e2
  injection e2 with e2 _
  refine ⟨i, hi, e1.symm, e2.symm.trans ?_⟩
  rw [List.getD_eq_getElem?_getD, List.getElem?_map, List.getD_eq_getElem?_getD, List.getElem?_eq_getElem hi] <;> rfl
def upD (ix : Nat) (last : Int) : PyData → PyData
  | .tuple [.int i, .int one] => .int (if i.toNat = ix then last + 1 else one + (if one > last then 1 else 0))
  | _ => .none
theorem upD_map (ns : List Int) (ix : Nat) (last : Int) : (enD (ns.map PyData.int)).map (upD ix last) = ((List.range ns.length).map fun i => if i = ix then last + 1 else ns.getD i 0 + (if ns.getD i 0 > last then 1 else 0)).map PyData.int := by
  unfold enD
  rw [List.map_map, List.map_map, List.length_map]
  refine List.map_congr_left fun i hi => ?_
  have hi := List.mem_range.mp hi
  have e1 : (ns.map PyData.int).getD i .none = .int (ns.getD i 0) := by
    rw [List.getD_eq_getElem?_getD, List.getElem?_map, List.getD_eq_getElem?_getD, List.getElem?_eq_getElem hi] <;> rfl
  show upD ix last (.tuple [.int (i : Nat), (ns.map PyData.int).getD i .none]) = _
  rw [e1]
  show PyData.int (if (i : Int).toNat = ix then _ else _) = _
  rw [Int.toNat_natCast] <;> rfl
theorem sc_next_places : FnScope ["places", "kind", "last", "greatest", "index", "at", "one"] ["places", "kind"] (defScope (gF "next_places" 59).st) := ⟨rfl, rfl, rfl, by decide +kernel, rfl, by decide +kernel, by decide +kernel⟩
theorem c_next_places {P : Program} {w : World} {K : PySem.W.Frag} {mg : Str → Option Value} {base : Heap} (W : W0 K mg base) : Cal P w K mg base 1 (gF "next_places" 59) ["places", "kind"] (spNext K) := by
  refine Cal.of W 44 rfl sc_next_places (fun vs H Q E h => ?len) (fun _ _ _ _ _ _ us hl => match us, hl with | [_, _], _ => rfl) (fun cdv A outer s H vs Q E hr h => ?body)
  case len => obtain ⟨_, _, _, rfl, _⟩ := h; rfl
  have nd := sc_next_places.nd
  refine ⟨_, (pss_cons (ps_asg (pe_tup (pa_cons (pe_ix (k_ixT K) (pv 0) (pe_un un_neg pe_int) (fun _ _ => rfl)) (pa_cons (pe_op op_sub (pe_callB (k_len K) rfl (W.f 0 rfl) bb_len (pa_cons (pv 0) pa_nil)) pe_int) pa_nil))) (pg_tup rfl (pgs_cons (pg_name (i := 2) nd rfl (Or.inr rfl)) (pgs_cons (pg_name (i := 3) nd rfl (Or.inl rfl)) pgs_nil))))
      (pss_cons (ps_set (i := 4) nd rfl (Or.inr rfl) (pe_tidx (pv 0) (pa_cons (pv 3) pa_nil)))
      (pss_cons (ps_if (pt_cmpR op_eq (pv 1) pe_str (nomark _)) (pss_one (ps_ret (pe_tupX (k_star K (pe_slice (k_slT K) (pv 0) po_none (po_some (pe_op op_add (pv 4) pe_int))) (pa_cons (pv 2) (k_star K (pe_slice (k_slT K) (pv 0) (po_some (pe_op op_add (pv 4) pe_int)) (po_some (pv 3))) pa_nil)))))) pss_nil)
      (pss_one (ps_ret (pe_callTy (k_tupX K) rfl (W.f 2 rfl) bb_tuple (pa_cons (pe_lc (own := [("at", 5), ("one", 6)]) (g := (gTup K 2 (gCons (gName 5) (gCons (gName 6) gNil)))) (tt := tYes) rfl nd (pi_enumT rfl (W.f 9 rfl) (pa_cons (pv 0) pa_nil)) (blkOk_by (N := ["places", "kind", "last", "greatest", "index", "at", "one"]) (sc := defScope (gF "next_places" 59).st) (by decide +kernel)) (fun _ _ _ _ _ => (pg_tup rfl (pgs_cons (pg_name (i := 5) nd rfl (by first | exact Or.inl rfl | exact Or.inr rfl)) (pgs_cons (pg_name (i := 6) nd rfl (by first | exact Or.inl rfl | exact Or.inr rfl)) pgs_nil)))) (fun _ _ _ _ _ => pts_nil) (fun _ _ _ _ _ => (pe_ifExp (pt_cmpR op_eq (pv 5) (pv 4) (nomark _)) (pe_op op_add (pv 2) pe_int) (pe_op op_add (pv 6) (pe_callTy call_int1 rfl (W.f 4 rfl) bb_int (pa_cons (pe_cmpR op_gt (pv 6) (pv 2) (nomark _)) pa_nil)))))) pa_nil))))))), ?_⟩
  obtain ⟨v, ns, k, rfl, hx, hz, hg, q⟩ := h
  have hne : ns ≠ [] := fun z => by rw [z] at hg; exact nomatch hg
  have hv : Rp K H v (tI ns) := hx.rp
  have n1 : 1 ≤ ns.length := by cases ns with | nil => exact absurd rfl hne | cons a r => simp
  refine q_asgT2 (K := K) (ed_tup (eds_cons (ed_ixT (ed_var rfl hv) (ev_un ev_c ru_neg) (atI_ints_last hne)) (eds_cons (ed_int (ev_op (ev_lenT (ed_var rfl hv)) ev_c rv_I0)) eds_nil)) (by show 2 ≤ 100000; decide)) fun x y H1 e1 r1 r2 => ?_
  cases r1
  cases r2
  rw [List.length_map]
  refine q_asg (v := .int (ns.idxOf ((ns.length : Int) - 1) : Nat)) (ev_idx (edX_var rfl (hx.ex e1)) (ev_var rfl) hg) fun H2 e2 => ?_
  have hx2 := (hx.ex e1).ex e2
  have k1 : ("upper" : Str) ≠ ("lower" : Str) := by decide +kernel
  cases k with
  | true =>
    refine q_when (b := false) (et_is (et_test (ev_op (ev_var rfl) ev_c (rv_eq rfl))) (by simp [kindS, k1])) (fun z => nomatch z) (fun _ H3 e3 => ?_)
    have hx3 := hx2.ex e3
    refine (edX_tup (K := K) (edL_is (edL_map2 (K := K) (ws := [5, 6]) (j := 5) (k := 6) (upD (ns.idxOf ((ns.length : Int) - 1)) (ns.getLastD 0)) (edI_enT (eds_cons (ed_var rfl hx3.rp) eds_nil)) (fun _ _ => exT) (by rw [enD_len, List.length_map]; omega) (fun _ _ => rfl) enD_pairs fun b c x y H7 e7 hm ra rb => ?_) (upD_map ns _ _))) H3 (Ex.refl _) _ fun v' H4 e4 r => q v' H4 (((e1.trans e2).trans e3).trans e4) r
    obtain ⟨j, hj, rfl, rfl⟩ := mem_enI hm
    cases ra
    cases rb
    show Ed K _ _ H7 (.int (if (j : Int).toNat = ns.idxOf ((ns.length : Int) - 1) then ns.getLastD 0 + 1 else ns.getD j 0 + (if ns.getD j 0 > ns.getLastD 0 then 1 else 0)))
    rw [Int.toNat_natCast]
    refine ed_int (ev_if (b := decide (j = ns.idxOf ((ns.length : Int) - 1))) (et_is (et_test (ev_op (ev_var rfl) (ev_var rfl) (rv_eq rfl))) (by rw [dec_int, Bool.eq_iff_iff]; simp; omega)) (fun hb => ?_) fun hb => ?_)
    · rw [if_pos (of_decide_eq_true hb)]
      exact ev_op (ev_var rfl) ev_c rv_I0
    · rw [if_neg (of_decide_eq_false hb)]
      exact ev_is (ev_op (ev_var rfl) (ev_intB (ev_op (ev_var rfl) (ev_var rfl) rv_I0)) rv_I0) (by simp)
  | false =>
    refine q_when (b := true) (et_is (et_test (ev_op (ev_var rfl) ev_c (rv_eq rfl))) (by simp [kindS])) (fun _ H3 e3 => ?_) (fun z => nomatch z)
    have hx3 := hx2.ex e3
    refine (edX_disp (K := K) (ns := nextI false ns) (fun H4 e4 Q4 q4 => (eds_star (ed_sl (ed_var rfl hx3.rp) eo_none (eo_some (ev_op (ev_var rfl) ev_c rv_I0))) (eds_cons (ed_int (ev_var rfl)) (eds_star (ed_sl (ed_var rfl hx3.rp) (eo_some (ev_op (ev_var rfl) ev_c rv_I0)) (eo_some (ev_var rfl))) eds_nil))) H4 e4 Q4 fun vs H5 e5 r5 => q4 vs H5 e5 ?_) ?_) H3 (Ex.refl _) _ fun v' H4 e4 r => q v' H4 (((e1.trans e2).trans e3).trans e4) r
    · have g2 : ((ns.length : Int) - 1) = ((ns.length - 1 : Nat) : Int) := by omega
      have c1 : cutL (ns.map PyData.int) none (some ((ns.idxOf ((ns.length : Int) - 1) : Int) + 1)) = (ns.map PyData.int).take (ns.idxOf ((ns.length : Int) - 1) + 1) := cutL_to _ _
      have c2 : cutL (ns.map PyData.int) (some ((ns.idxOf ((ns.length : Int) - 1) : Int) + 1)) (some ((ns.length : Int) - 1)) = ((ns.map PyData.int).take (ns.length - 1)).drop (ns.idxOf ((ns.length : Int) - 1) + 1) := by
        have := cutL_mid (ns.map PyData.int) (ns.idxOf ((ns.length : Int) - 1) + 1) (ns.length - 1)
        rw [← g2] at this
        exact this
      rw [c1, c2] at r5
      unfold nextI
      rw [if_neg Bool.false_ne_true, List.map_append, List.map_cons, List.map_take, List.map_drop, List.map_take]
      rw [List.append_nil] at r5
      exact r5
    · unfold nextI
      rw [if_neg Bool.false_ne_true]
      simp only [List.length_append, List.length_cons, List.length_take, List.length_drop]
      omega
def spWalked (K : PySem.W.Frag) : Sp := fun vs H Q _ => ∃ k, vs = [.str (kindS k)] ∧ ∀ H', Ex H H' → Q (.bl true) H'
theorem sc_is_walked : FnScope ["value"] ["value"] (defScope (gF "is_walked" 57).st) := ⟨rfl, rfl, rfl, by decide +kernel, rfl, by decide +kernel, by decide +kernel⟩
theorem c_is_walked {P : Program} {w : World} {K : PySem.W.Frag} {mg : Str → Option Value} {base : Heap} (W : W0 K mg base) : Cal P w K mg base 1 (gF "is_walked" 57) ["value"] (spWalked K) := by
  refine Cal.of W 42 rfl sc_is_walked (fun vs H Q E h => ?len) (fun _ _ _ _ _ _ us hl => match us, hl with | [_], _ => rfl) (fun cdv A outer s H vs Q E hr h => ?body)
  case len => obtain ⟨_, rfl, _⟩ := h; rfl
  have nd := sc_is_walked.nd
  refine ⟨_, (pss_one (ps_ret (pe_and (pe_callB (k_isi K) rfl (W.f 1 rfl) bb_isinstance (pa_cons (pv 0) (pa_cons (pe_bltn rfl (W.f 3 rfl) bb_str relTy) pa_nil))) (pe_one (pe_cmpR (k_in K) (pv 0) (pe_glob rfl (W.g 64 rfl) relRef) (by with_unfolding_all rfl)))))), ?_⟩
  obtain ⟨k, rfl, q⟩ := h
  exact s_ret (ev_andV (a := true) (b := true) (ev_isi .str (ed_var rfl (.str _)) ev_c rfl) fun _ => ev_is (ev_op (ev_var rfl) ev_c (rv_isT (W.walked _) rfl rfl)) (congrArg V.bl (kind_in2 k))) q
theorem sc_is_course : FnScope ["value", "one"] ["value"] (defScope (gF "is_course" 58).st) := ⟨rfl, rfl, rfl, by decide +kernel, rfl, by decide +kernel, by decide +kernel⟩
theorem c_is_course {P : Program} {w : World} {K : PySem.W.Frag} {mg : Str → Option Value} {base : Heap} (W : W0 K mg base) : Cal P w K mg base 2 (gF "is_course" 58) ["value"] (spKinds K) := by
  refine Cal.of W 43 rfl sc_is_course (fun vs H Q E h => ?len) (fun _ _ _ _ _ _ us hl => match us, hl with | [_], _ => rfl) (fun cdv A outer s H vs Q E hr h => ?body)
  case len => obtain ⟨_, _, rfl, _⟩ := h; rfl
  have nd := sc_is_course.nd
  refine ⟨_, (pss_one (ps_ret (pe_and (pe_callB (k_isi K) rfl (W.f 1 rfl) bb_isinstance (pa_cons (pv 0) (pa_cons (pe_bltn rfl (W.f 2 rfl) bb_tuple relTy) pa_nil))) (pe_and (pe_cmpR op_le (pe_callB (k_len K) rfl (W.f 0 rfl) bb_len (pa_cons (pv 0) pa_nil)) (pe_gi rfl (W.i 4 rfl)) (nomark _)) (pe_one (pe_callB (k_all K rfl) rfl (W.f 6 rfl) bb_all (pa_cons (pe_lc (own := [("one", 1)]) (g := (gName 1)) (tt := tYes) rfl nd (k_pi_tup K (pv 0)) (blkOk_by (N := ["value", "one"]) (sc := defScope (gF "is_course" 58).st) (by decide +kernel)) (fun _ _ _ _ _ => (pg_name (i := 1) nd rfl (by first | exact Or.inl rfl | exact Or.inr rfl))) (fun _ _ _ _ _ => pts_nil) (fun _ _ _ _ _ => (k_cal K (c_is_walked W) (hr.mono (by decide)) rfl (W.g 31 rfl) (pa_cons (pv 1) pa_nil)))) pa_nil))))))), ?_⟩
  obtain ⟨v, ks, rfl, hv, hz, q⟩ := h
  refine s_ret (ev_andV (a := true) (b := true) (ev_isi .tuple (ed_var rfl hv) ev_c rfl) fun _ => ev_andV (a := true) (b := true) (ev_is (ev_op (ev_lenT (ed_var rfl hv)) ev_c rv_I0) ?_) fun _ => ev_all (bs := ks.map fun _ => true) (edL_is (edL_map (K := K) (ws := [1]) (j := 1) (fun _ => .bool true) (edI_tup (ed_var rfl hv)) (fun _ _ => exT) (by rw [List.length_map, List.length_map]; omega) (fun _ => rfl) fun d x H2 e2 hm r => ?_) ?_) (all_true_of ks)) q
  · rw [List.length_map, List.length_map]
    exact congrArg V.bl (decide_eq_true (by omega))
  · obtain ⟨z, hz, rfl⟩ := List.mem_map.mp hm
    obtain ⟨k, _, rfl⟩ := List.mem_map.mp hz
    cases r
    exact ed_bl fun H3 e3 Q3 q3 => ⟨_, rfl, k, rfl, fun H4 e4 => q3 H4 e4⟩
  · simp [List.map_map]
def prefOk (ns : List Int) : Prop := ∀ k : Nat, 1 ≤ k → k < ns.length → ∃ x, x ∈ ns.take k ∧ (k : Int) ≤ x
def spPlaces (K : PySem.W.Frag) : Sp := fun vs H Q _ => ∃ v ns, vs = [v, .int 7] ∧ Rp K H v (tI ns) ∧ 2 ≤ ns.length ∧ ns.length ≤ 7 ∧ ns.Perm ((List.range ns.length).map fun i : Nat => (i : Int)) ∧ prefOk ns ∧ ∀ H', Ex H H' → Q (.bl true) H'
theorem rgV_nat (n : Nat) : rgV 0 (n : Int) = ((List.range n).map fun i : Nat => (i : Int)).map V.int := by
  unfold rgV
  rw [List.map_map]
  simp
theorem edL_listRg {K : PySem.W.Frag} {σ : L2.St} {H : Hp} {te : TE} {n : Nat} (h : Ev te σ H (.int (n : Int))) (hn : n ≤ 1000) : EdL K (tLstRg (tRg1 te)) σ H (((List.range n).map fun i : Nat => (i : Int)).map PyData.int) := fun H1 e Q q =>
  h H1 e _ fun H2 e2 => ⟨n, rfl, RgOk.of_le (by omega) (by omega) (by omega) (by omega), fun p hp => by
    rw [rgV_nat]
    exact q p _ _ (fresh_back e2 hp) (e2.trans (Ex.new hp)) upd_same (rps_ints _)⟩
theorem ev_maxGe {K : PySem.W.Frag} {σ : L2.St} {H : Hp} {ta tb : TE} {ms : List Int} {k : Int} (h : Ed K ta σ H (tI ms)) (h2 : Ev tb σ H (.int k)) (hx : ∃ x ∈ ms, k ≤ x) : Ev (tOp (rI0 fun i j => .bl (decide (i ≥ j))) (tCB (rMaxT K) (tCons ta tNil)) tb) σ H (.bl true) := fun H1 e Q q =>
  h H1 e _ fun v H2 e2 r => by
    obtain ⟨a, rfl, hs⟩ := rp_tints r
    obtain ⟨x, hx, hk⟩ := hx
    refine ⟨a, ms, rfl, hs, List.length_pos_of_mem hx, fun m hm hmax => h2 H2 (e.trans e2) _ fun H3 e3 => ⟨m, k, rfl, rfl, ?_⟩⟩
    have : decide (m ≥ k) = true := decide_eq_true (Int.le_trans hk (hmax x hx))
    show Q (V.bl (decide (m ≥ k))) H3
    rw [this]
    exact q H3 (e2.trans e3)
theorem sc_are_places : FnScope ["value", "most", "many", "one"] ["value", "most"] (defScope (gF "are_places" 56).st) := ⟨rfl, rfl, rfl, by decide +kernel, rfl, by decide +kernel, by decide +kernel⟩
theorem c_are_places {P : Program} {w : World} {K : PySem.W.Frag} {mg : Str → Option Value} {base : Heap} (W : W0 K mg base) : Cal P w K mg base 2 (gF "are_places" 56) ["value", "most"] (spPlaces K) := by
  refine Cal.of W 41 rfl sc_are_places (fun vs H Q E h => ?len) (fun _ _ _ _ _ _ us hl => match us, hl with | [_, _], _ => rfl) (fun cdv A outer s H vs Q E hr h => ?body)
  case len => obtain ⟨_, _, rfl, _⟩ := h; rfl
  have nd := sc_are_places.nd
  refine ⟨_, (pss_cons (ps_if (PW.pt (pw_or (pt_not (pt_val (pe_callB (k_isi K) rfl (W.f 1 rfl) bb_isinstance (pa_cons (pv 0) (pa_cons (pe_bltn rfl (W.f 2 rfl) bb_tuple relTy) pa_nil))))) (pw_or (pt_not (pt_chain op_le op_le pe_int (pe_callB (k_len K) rfl (W.f 0 rfl) bb_len (pa_cons (pv 0) pa_nil)) (pv 1))) (pw_or1 (pt_not (pt_val (pe_callB (k_all K rfl) rfl (W.f 6 rfl) bb_all (pa_cons (pe_lc (own := [("one", 3)]) (g := (gName 3)) (tt := tYes) rfl nd (k_pi_tup K (pv 0)) (blkOk_by (N := ["value", "most", "many", "one"]) (sc := defScope (gF "are_places" 56).st) (by decide +kernel)) (fun _ _ _ _ _ => (pg_name (i := 3) nd rfl (by first | exact Or.inl rfl | exact Or.inr rfl))) (fun _ _ _ _ _ => pts_nil) (fun _ _ _ _ _ => (k_cal K (c_is_whole W) (hr.mono (by decide)) rfl (W.g 0 rfl) (pa_cons (pv 3) pa_nil)))) pa_nil)))))))) (pss_one (ps_ret pe_bl)) pss_nil)
      (pss_cons (ps_if (pt_cmpR (k_neD K hr.units) (pe_callB (k_sort K rfl hr.units) rfl (W.f 8 rfl) bb_sorted (pa_cons (pv 0) pa_nil)) (pe_listRg rfl rfl (W.f 14 rfl) (prg_1 rfl (W.f 11 rfl) (pe_callB (k_len K) rfl (W.f 0 rfl) bb_len (pa_cons (pv 0) pa_nil)))) (nomark _)) (pss_one (ps_ret pe_bl)) pss_nil)
      (pss_one (ps_ret (pe_callB (k_all K rfl) rfl (W.f 6 rfl) bb_all (pa_cons (pe_lc (own := [("many", 2)]) (g := (gName 2)) (tt := tYes) rfl nd (pi_range2 rfl (W.f 11 rfl) (pa_cons pe_int (pa_cons (pe_callB (k_len K) rfl (W.f 0 rfl) bb_len (pa_cons (pv 0) pa_nil)) pa_nil))) (blkOk_by (N := ["value", "most", "many", "one"]) (sc := defScope (gF "are_places" 56).st) (by decide +kernel)) (fun _ _ _ _ _ => (pg_name (i := 2) nd rfl (by first | exact Or.inl rfl | exact Or.inr rfl))) (fun _ _ _ _ _ => pts_nil) (fun _ _ _ _ _ => (pe_cmpR op_ge (pe_callB (k_maxT K rfl) rfl (W.f 12 rfl) bb_max (pa_cons (pe_slice (k_slT K) (pv 0) po_none (po_some (pv 2))) pa_nil)) (pv 2) (nomark _)))) pa_nil)))))), ?_⟩
  obtain ⟨v, ns, rfl, hv, n2, n7, pm, pf, q⟩ := h
  have hlen : (ns.map PyData.int).length = ns.length := List.length_map ..
  have hb : (decide ((2 : Int) ≤ ((ns.map PyData.int).length : Int)) && decide (((ns.map PyData.int).length : Int) ≤ 7)) = true := by
    rw [hlen, decide_eq_true (by omega), decide_eq_true (by omega)] <;> rfl
  refine q_when (b := false) (et_is (et_or (et_not (et_B (ev_isi .tuple (ed_var rfl hv) ev_c rfl))) fun _ => et_or (et_not (et_test (ev_chain ev_c (ev_lenT (ed_var rfl hv)) (ev_var rfl) hb))) fun _ =>
    et_not (et_B (ev_all (bs := ns.map fun _ => true) (b := true) (edL_is (edL_map (fun _ => .bool true) (edI_tup (ed_var rfl hv)) (fun _ _ => exT) (by rw [hlen]; omega) (fun _ => rfl) fun d y H2 e2 hd r => ?_) ?_) (all_true_of ns)))) rfl) (fun z => nomatch z) fun _ H1 e1 => ?_
  · obtain ⟨x, hx, rfl⟩ := List.mem_map.mp hd
    cases r
    exact ed_bl (ev_wholeC (ev_var rfl))
  · simp [List.map_map]
  have hs : sortI ns = (List.range ns.length).map fun i : Nat => (i : Int) := by
    rw [sortI_perm pm]
    unfold sortI
    refine List.mergeSort_of_pairwise ?_
    rw [List.pairwise_map]
    exact List.pairwise_lt_range.imp fun h => by simp; omega
  refine q_when (b := false) (et_is (et_test (ev_neLL (b := true) (edL_is (edL_sortT (ed_var rfl (hv.ex e1)) (sortOk_ints (by omega))) (sortD_ints ns)) (edL_listRg (n := ns.length) (ev_is (ev_lenT (ed_var rfl (hv.ex e1))) (by rw [hlen])) (by omega)) (shaped_ints _).1 (shaped_ints _).1 (by rw [hs]; exact SeqAt.eqv_refl _ (SeqAt.canLay_of_shaped (shaped_ints _).1)))) rfl) (fun z => nomatch z) fun _ H2 e2 => ?_
  have hv2 := (hv.ex e1).ex e2
  refine s_ret (ev_all (bs := (List.range (ns.length - 1)).map fun _ => true) (b := true) (edL_is (edL_map (K := K) (ws := [2]) (j := 2) (fun _ => .bool true) (edI_rng2 (lo := 1) (n := (ns.length : Int)) (eva_cons ev_c (eva_cons (ev_is (ev_lenT (ed_var rfl hv2)) (by rw [hlen])) eva_nil)) (by omega) (by omega)) (fun _ _ => exT) (by rw [rng_len]; omega) (fun _ => rfl) fun d x H3 e3 hm r => ?_) ?_) (all_true_of _)) fun H3 e3 => q H3 ((e1.trans e2).trans e3)
  · unfold rngD at hm
    obtain ⟨i, hi, rfl⟩ := List.mem_map.mp hm
    have hi := List.mem_range.mp hi
    cases r
    have e3' := (e1.trans e2).trans e3
    have c1 : cutL (ns.map PyData.int) none (some (1 + (i : Int))) = (ns.take (1 + i)).map PyData.int := by
      have := cutL_to (ns.map PyData.int) (1 + i)
      rw [List.map_take]
      rw [← this]
      congr 2
    refine ed_bl (ev_maxGe (ms := ns.take (1 + i)) (ed_is (ed_sl (ed_var rfl (hv.ex e3')) eo_none (eo_some (ev_var rfl))) (congrArg PyData.tuple c1)) (ev_var rfl) ?_)
    obtain ⟨x, hx, hk⟩ := pf (1 + i) (by omega) (by omega)
    exact ⟨x, hx, by push_cast at hk; exact hk⟩
  · unfold rngD
    rw [List.map_map, List.map_map]
    have : ((ns.length : Int) - 1).toNat = ns.length - 1 := by omega
    rw [this]
    rfl
end PR
end
section
set_option Elab.async false
set_option linter.all false
set_option maxRecDepth 100000
set_option maxHeartbeats 4000000
/-! The walked places. -/
namespace PR
open PySem PySem.Spec PyProof.Rows L2 Evl
abbrev Lk := Option (Bool × List Int)
abbrev Fd := List (List Int × Lk)
def okP (p : List Int) : Bool := decide (p.length ≤ 100) && p.contains ((p.length : Int) - 1)
def hasK (f : Fd) (p : List Int) : Bool := f.any fun e => e.1 == p
def stepK (k : Bool) (p : List Int) (s : Fd × List (List Int)) : Fd × List (List Int) := if hasK s.1 (nextI k p) then s else (s.1 ++ [(nextI k p, some (k, p))], s.2 ++ [nextI k p])
def stepP (p : List Int) (s : Fd × List (List Int)) : Option (Fd × List (List Int)) := if okP p && (decide (s.1.length < 5000) && decide (s.2.length < 5000)) then some (stepK false p (stepK true p s)) else none
def layerF : List (List Int) → Fd × List (List Int) → Option (Fd × List (List Int))
  | [], s => some s
  | p :: r, s => (stepP p s).bind (layerF r)
def hasG (f : Fd) : Option (List Int) → Bool
  | none => false
  | some g => hasK f g
def walkedF (goal : Option (List Int)) : Nat → Fd → List (List Int) → Option Fd
  | 0, _, _ => none
  | m + 1, f, ly => if ly = [] then some f else if hasG f goal then some f else (layerF ly (f, [])).bind fun s => walkedF goal m s.1 s.2
/-- a link in the heap -/
def LkV (K : PySem.W.Frag) (H : Hp) (v : V) : Lk → Prop
  | none => v = .non
  | some (k, p) => ∃ a x, v = .ref a ∧ SqT K H a [.str (kindS k), x] ∧ XT H x p
theorem LkV.up {K : PySem.W.Frag} {H H' : Hp} {v : V} (e : TEx H H') : ∀ {o : Lk}, LkV K H v o → LkV K H' v o
  | none, h => h
  | some (k, p), ⟨a, x, h1, h2, h3⟩ => ⟨a, x, h1, e.sq h2, h3.up e⟩
def FdV (K : PySem.W.Frag) (H : Hp) : List (List Int × V) → Fd → Prop := Paired fun a b => a.1 = b.1 ∧ LkV K H a.2 b.2
theorem FdV.up {K : PySem.W.Frag} {H H' : Hp} {kvs : List (List Int × V)} {f : Fd} (h : FdV K H kvs f) (e : TEx H H') : FdV K H' kvs f := Paired.mapP h fun _ _ z => ⟨z.1, z.2.up e⟩
theorem FdV.has {K : PySem.W.Frag} {H : Hp} {kvs : List (List Int × V)} {f : Fd} (h : FdV K H kvs f) (p : List Int) : (valV kvs p).isSome = hasK f p := by
  unfold FdV at h
  induction h with
  | nil => rfl
  | @cons a b as bs h t ih =>
    by_cases e : a.1 = p
    · rw [valV_pos e]
      unfold hasK
      rw [List.any_cons, ← h.1, e]
      simp
    · rw [valV_neg e, ih]
      unfold hasK
      rw [List.any_cons, ← h.1]
      have : (a.1 == p) = false := by simpa using e
      rw [this, Bool.false_or]
def LyV (H : Hp) : List V → List (List Int) → Prop := Paired fun v p => XT H v p
theorem LyV.up {H H' : Hp} {vs : List V} {ps : List (List Int)} (h : LyV H vs ps) (e : TEx H H') : LyV H' vs ps := Paired.mapP h fun _ _ z => z.up e
theorem LyV.rps {K : PySem.W.Frag} {H : Hp} {vs : List V} {ps : List (List Int)} (h : LyV H vs ps) : Rps K H vs (ps.map tI) := by
  unfold LyV at h
  induction h with
  | nil => exact .nil
  | cons a t ih => exact .cons a.rp ih
theorem lay_all {k : Nat} : ∀ {ds : List PyData}, (∀ d ∈ ds, d.canLay0 = true ∧ d.depth ≤ k) → PyData.canLayAll0 ds = true ∧ PyData.depthAll ds ≤ k
  | [], _ => ⟨rfl, Nat.zero_le _⟩
  | d :: r, h => by
    obtain ⟨h1, h2⟩ := lay_all fun e he => h e (List.mem_cons_of_mem _ he)
    obtain ⟨h3, h4⟩ := h d List.mem_cons_self
    simp only [PyData.canLayAll0, PyData.depthAll, h1, h3, Bool.and_true]
    exact ⟨trivial, Nat.max_le.mpr ⟨h4, h2⟩⟩
theorem shaped_of_all {k : Nat} {ds : List PyData} (h : ∀ d ∈ ds, d.canLay0 = true ∧ d.depth ≤ k) (hk : k ≤ 60) : SeqAt.shaped (.list ds) = true ∧ SeqAt.shaped (.tuple ds) = true := by
  obtain ⟨h1, h2⟩ := lay_all h
  constructor
  · unfold SeqAt.shaped
    simp only [PyData.canLay0, PyData.depth, h1, Bool.true_and]
    exact decide_eq_true (by omega)
  · unfold SeqAt.shaped
    simp only [PyData.canLay0, PyData.depth, h1, Bool.true_and]
    exact decide_eq_true (by omega)
theorem lay_tI (ns : List Int) : (tI ns).canLay0 = true ∧ (tI ns).depth ≤ 1 := ⟨SeqAt.canLay_of_shaped (shaped_ints ns).2, depth_encT ns⟩
theorem shaped_tT (ps : List (List Int)) : SeqAt.shaped (.list (ps.map tI)) = true ∧ SeqAt.shaped (tT ps) = true := shaped_of_all (k := 1) (fun d hd => by
  obtain ⟨p, _, rfl⟩ := List.mem_map.mp hd
  exact lay_tI p) (by decide)
theorem eqvAll_tI : ∀ a b : List (List Int), PyData.eqvAll (a.map tI) (b.map tI) = decide (a = b)
  | [], [] => rfl
  | [], _ :: _ => rfl
  | _ :: _, [] => rfl
  | x :: a, y :: b => by
    show PyData.eqvAll (tI x :: a.map tI) (tI y :: b.map tI) = _
    rw [PyData.eqvAll, eqvAll_tI a b, eqv_ints, Bool.eq_iff_iff]
    simp
theorem eqvL_tI (a b : List (List Int)) : PyData.eqv (.list (a.map tI)) (.list (b.map tI)) = decide (a = b) := by
  rw [PyData.eqv]
  exact eqvAll_tI a b
theorem ev_neLsL {K : PySem.W.Frag} {σ : L2.St} {H : Hp} {ta tb : TE} {ds es : List PyData} {p : Addr} {vs : List V} {b : Bool} (h1 : Ev ta σ H (.ref p)) (hp : SqL K H p vs) (rs : Rps K H vs ds) (h2 : EdL K tb σ H es) (s1 : SeqAt.shaped (.list ds) = true) (s2 : SeqAt.shaped (.list es) = true) (e : PyData.eqv (.list ds) (.list es) = b) : Ev (tOp (rNeD K) ta tb) σ H (.bl !b) := fun H1 e0 Q q =>
  h1 H1 e0 _ fun H2 e2 => h2 H2 (e0.trans e2) _ fun p' vs' H3 _ e3 h3 r3 => ⟨_, _, dp_list (ex_l ((e0.trans e2).trans e3) hp) (rs.ex ((e0.trans e2).trans e3)), dp_list (sq_of h3) r3, s1, s2, by rw [e]; exact q H3 (e2.trans e3)⟩
/-- where a start's walk ends: the places found, each with its link -/
def spWalk (K : PySem.W.Frag) (P : Program) (w : World) : Sp := fun vs H Q _ => ∃ v g st goal m f, vs = [v, g] ∧ XT H v st ∧ (match goal with | none => g = .non | some p => XT H g p) ∧ walkedF goal m [(st, none)] [st] = some f ∧
  ∀ H' d kvs, H d = none → Ex H H' → DX P w H' d kvs → FdV K H' kvs f → Q (.ref d) H'
/-- amid a round of the walk -/
structure Inn (P : Program) (w : World) (K : PySem.W.Frag) (H0 H : Hp) (d ll lt : Addr) (vs : List V) (ly : List (List Int)) (s : Fd × List (List Int)) : Prop where
  ex : Ex H0 H
  fd : H0 d = none
  fl : H0 lt = none
  dx : ∃ kvs, DX P w H d kvs ∧ FdV K H kvs s.1
  la : H ll = some (.lst vs)
  lv : LyV H vs ly
  lat : ∃ ws, H lt = some (.lst ws) ∧ LyV H ws s.2
  ne : ll ≠ lt
theorem Inn.go {P : Program} {w : World} {K : PySem.W.Frag} {H0 H H' : Hp} {d ll lt : Addr} {vs : List V} {ly : List (List Int)} {s : Fd × List (List Int)} (h : Inn P w K H0 H d ll lt vs ly s) (e : Ex H H') : Inn P w K H0 H' d ll lt vs ly s := by
  obtain ⟨h1, h2, h3, ⟨kvs, h4, h5⟩, h6, h7, ⟨ws, h8, h9⟩, h10⟩ := h
  exact ⟨h1.trans e, h2, h3, ⟨kvs, h4.ext e, h5.up (exT e)⟩, e _ _ h6, h7.up (exT e), ⟨ws, e _ _ h8, h9.up (exT e)⟩, h10⟩
theorem paired_snoc' {α β : Type} {F : α → β → Prop} {l : List α} {m : List β} {a : α} {b : β} (h : Paired F l m) (q : F a b) : Paired F (l ++ [a]) (m ++ [b]) := paired_snoc q h
theorem LyV.at {H : Hp} {vs : List V} {ps : List (List Int)} {i : Nat} {v : V} {p : List Int} (h : LyV H vs ps) (h1 : vs[i]? = some v) (h2 : ps[i]? = some p) : XT H v p := by
  unfold LyV at h
  induction h generalizing i with
  | nil => exact nomatch h1
  | cons a t ih =>
    cases i with
    | zero => cases h1; cases h2; exact a
    | succ i => exact ih h1 h2
theorem okP_ok {p : List Int} (h : okP p = true) : p.length ≤ 100 ∧ ((p.length : Int) - 1) ∈ p := by
  unfold okP at h
  rw [Bool.and_eq_true] at h
  exact ⟨of_decide_eq_true h.1, by simpa using h.2⟩
def kindN (i : Nat) : Bool := decide (i = 0)
theorem q_asgX {σ : L2.St} {H : Hp} {te : TE} {tz : TS} {D : Ends} {i : Nat} {ns : List Int} (h : EdX te σ H ns) (k : ∀ v H1, Ex H H1 → XT H1 v ns → tz D (σ.set i (some v)) H1) : tSeq (tAsg te (gName i)) tz D σ H := h H (Ex.refl _) _ fun v H1 e r => k v H1 e r
theorem edX_next {K : PySem.W.Frag} {σ : L2.St} {H : Hp} {ta tb : TE} {ns : List Int} {k : Bool} (h1 : EdX ta σ H ns) (h2 : Ev tb σ H (.str (kindS k))) (ok : okP ns = true) : EdX (tCall (spNext K) [] E0 (tCons ta (tCons tb tNil))) σ H (nextI k ns) := fun H1 e Q q =>
  h1 H1 e _ fun v H2 e2 x => h2 H2 (e.trans e2) _ fun H3 e3 => ⟨v, ns, k, rfl, x.ex e3, (okP_ok ok).1, (okP_ok ok).2, fun v' H4 e4 x' => q v' H4 ((e2.trans e3).trans e4) x'⟩
/-- the turn of one kind -/
theorem walk_turn {P : Program} {w : World} {K : PySem.W.Frag} {H0 H : Hp} {d ll lt : Addr} {vs : List V} {ly : List (List Int)} {s : Fd × List (List Int)} {v g xp : V} {y7 : Option V} {p : List Int} {k : Bool} {D : Ends} (h : Inn P w K H0 H d ll lt vs ly s) (hx : XT H xp p) (ok : okP p = true) (z1 : s.1.length < 50000) (z2 : s.2.length < 50000)
    (q : ∀ y7 H', Inn P w K H0 H' d ll lt vs ly (stepK k p s) → TEx H H' → D.nx [some v, some g, some (.ref d), some (.ref ll), some (.ref lt), some xp, some (.str (kindS k)), y7] H') :
    tSeq (tAsg (tCall (spNext K) [] E0 (tCons (tVar 5) (tCons (tVar 6) tNil))) (gName 7)) (tIfS (tTest (tOp (rDxNi K P w) (tVar 7) (tVar 2))) (tSeq (sDxPut P w (tVar 2) (tVar 7) (tTup (tCons (tVar 6) (tCons (tVar 5) tNil)))) (tDrop (tBM K "list" rAppend (tVar 4) (tCons (tVar 7) tNil)))) tNext) D
      [some v, some g, some (.ref d), some (.ref ll), some (.ref lt), some xp, some (.str (kindS k)), y7] H := by
  refine q_asgX (edX_next (edX_var rfl hx) (ev_var rfl) ok) fun v7 H1 e1 x7 => ?_
  have h1 := h.go e1
  have hx1 := hx.ex e1
  obtain ⟨b, o, rfl, hb, _⟩ := id x7
  obtain ⟨kvs, dx, fv⟩ := h1.dx
  have ht : EvT (tTest (tOp (rDxNi K P w) (tVar 7) (tVar 2))) [some v, some g, some (.ref d), some (.ref ll), some (.ref lt), some xp, some (.str (kindS k)), some (.ref b)] H1 (!hasK s.1 (nextI k p)) := fun H2 e2 Q q2 =>
    ⟨_, rfl, _, rfl, Or.inl ⟨b, d, kvs, nextI k p, rfl, rfl, dx.ext e2, (x7.ex e2).sq, _, rfl, by rw [fv.has]; exact q2 H2 (Ex.refl _)⟩⟩
  refine s_when ht (fun hb H2 e2 => ?_) fun hb H2 e2 => ?_
  · have hno : hasK s.1 (nextI k p) = false := by simpa using hb
    have hst : stepK k p s = (s.1 ++ [(nextI k p, some (k, p))], s.2 ++ [nextI k p]) := by
      unfold stepK
      rw [hno] <;> rfl
    rw [hst] at q
    have h2 := h1.go e2
    have hx2 := hx1.ex e2
    have x72 := x7.ex e2
    unfold tSeq sDxPut
    refine (eu_tup (eva_cons (ev_var rfl) (eva_cons (ev_var rfl) eva_nil)) (by show 2 ≤ 100000; decide) : EvU (tTup (tCons (tVar 6) (tCons (tVar 5) tNil))) [some v, some g, some (.ref d), some (.ref ll), some (.ref lt), some xp, some (.str (kindS k)), some (.ref b)] H2 [.str (kindS k), xp]) H2 (Ex.refl _) _ fun T H3 fT e3 hT => ?_
    have h3 := h2.go e3
    have e13 := e2.trans e3
    have dx3 := dx.ext e13
    have fv3 := fv.up (exT e13)
    have x73 := x72.ex e3
    have hx3 := hx2.ex e3
    have len : kvs.length = s.1.length := Paired.length fv
    refine ⟨_, rfl, _, rfl, d, b, kvs, nextI k p, rfl, rfl, dx3, x73, ?_, by omega, fun H4 ko t4 dx4 => ?_⟩
    · cases hv : valV kvs (nextI k p) with
      | none => rfl
      | some _ =>
        have := fv.has (nextI k p)
        rw [hv, hno] at this
        exact nomatch this
    · obtain ⟨ws, hws, lw⟩ := h3.lat
      have nl : lt ≠ d := fun z => by
        subst z
        exact dx3.ne hws rfl
      have nll : ll ≠ d := fun z => by
        subst z
        exact dx3.ne h3.la rfl
      have hws4 : H4 lt = some (.lst ws) := by rw [ko _ nl]; exact hws
      have lwl : ws.length = s.2.length := Paired.length lw
      refine s_app hws4 (ev_var rfl) (ev_var rfl) (by omega) fun H5 e5 => ?_
      have hws5 := e5 _ _ hws4
      have t5 : TEx H5 (upd H5 lt (.lst (ws ++ [.ref b]))) := TEx.lst hws5
      have t35 := t4.trans ((exT e5).trans t5)
      have ex4 : Ex H0 H4 := fun a oo ha => by
        rw [ko a (fun z => by subst z; rw [h.fd] at ha; exact nomatch ha)]
        exact h3.ex a oo ha
      refine q _ _ ⟨Ex.mut (ex4.trans e5) h.fl, h.fd, h.fl, ⟨kvs ++ [(nextI k p, .ref T)], (dx4.ext e5).other (Ne.symm nl) t5, ?_⟩, ?_, h3.lv.up t35, ⟨_, upd_same, ?_⟩, h.ne⟩ ((exT (e1.trans e13)).trans t35)
      · refine paired_snoc' (fv3.up t35) ⟨rfl, T, xp, rfl, t35.sq (SqT.of hT), hx3.up t35⟩
      · rw [upd_ne h.ne]
        refine e5 _ _ ?_
        rw [ko _ nll]
        exact h3.la
      · exact paired_snoc' (lw.up t35) (x73.up t35)
  · have hno : hasK s.1 (nextI k p) = true := by simpa using hb
    have hst : stepK k p s = s := by
      unfold stepK
      rw [hno] <;> rfl
    rw [hst] at q
    exact q _ H2 (h1.go e2) (exT (e1.trans e2))
theorem sc_walked : FnScope ["start", "goal", "found", "layer", "later", "places", "kind", "behind"] ["start", "goal"] (defScope (gF "walked" 61).st) := ⟨rfl, rfl, rfl, by decide +kernel, rfl, by decide +kernel, by decide +kernel⟩
theorem c_walked {P : Program} {w : World} {K : PySem.W.Frag} {mg : Str → Option Value} {base : Heap} (W : W0 K mg base) : Cal P w K mg base 2 (gF "walked" 61) ["start", "goal"] (spWalk K P w) := by
  refine Cal.of W 46 rfl sc_walked (fun vs H Q E h => ?len) (fun _ _ _ _ _ _ us hl => match us, hl with | [_, _], _ => rfl) (fun cdv A outer s H vs Q E hr h => ?body)
  case len => obtain ⟨_, _, _, _, _, _, rfl, _⟩ := h; rfl
  have nd := sc_walked.nd
  refine ⟨_, (pss_cons (ps_par (i := 2) (j := 3) rfl nd rfl rfl (by decide) rfl rfl (pa_cons (pe_dxdisp (hu_of hr) (pv 0) pe_non) (pa_cons (pe_lst (pa_cons (pv 0) pa_nil)) pa_nil)) rfl)
      (pss_cons (ps_while PassesOwn.never (PW.pt (pw_and (pt_cmpR (k_neD K hr.units) (pv 3) (pe_lst pa_nil) (nomark _)) (pw_and1 (pt_cmpR (op_dxNi (hu_of hr)) (pv 1) (pv 2) (by with_unfolding_all rfl))))) (pss_cons (ps_set (i := 4) nd rfl (Or.inl rfl) (pe_lst pa_nil))
      (pss_cons (ps_for PassesOwn.never rfl (k_pi_list K (pv 3)) (pg_name (i := 5) nd rfl (Or.inl rfl)) (pss_one (ps_for PassesOwn.never rfl (k_pi_tup K (pe_glob rfl (W.g 64 rfl) relRef)) (pg_name (i := 6) nd rfl (Or.inl rfl)) (pss_cons (ps_set (i := 7) nd rfl (Or.inl rfl) (k_cal K (c_next_places W) (hr.mono (by decide)) rfl (W.g 33 rfl) (pa_cons (pv 5) (pa_cons (pv 6) pa_nil))))
      (pss_one (ps_if (pt_cmpR (op_dxNi (hu_of hr)) (pv 7) (pv 2) (by with_unfolding_all rfl)) (pss_cons (ps_dxput (hu_of hr) (pv 2) (pv 7) (pe_tup (pa_cons (pv 6) (pa_cons (pv 5) pa_nil))) rfl)
      (pss_one (ps_expr (k_bm K PySem.F.plainAttrs_list PySem.F.slot_list_append PySem.F.type_list_append mt_append (pv 4) (pa_cons (pv 7) pa_nil))))) pss_nil))))))
      (pss_one (ps_set (i := 3) nd rfl (Or.inl rfl) (pe_callTy (k_list K) rfl (W.f 14 rfl) bb_list (pa_cons (pv 4) pa_nil)))))))
      (pss_one (ps_ret (pv 2))))), ?_⟩
  obtain ⟨v, g, st, goal, m, f, rfl, hv, hg, hf, q⟩ := h
  refine q_par ?_
  intro d hd
  obtain ⟨b, o, rfl, hb, ho⟩ := id hv
  refine ⟨_, rfl, upd_same, b, st, rfl, hv.ex (Ex.new hd), fun H1 ko1 t1 dx1 => ?_⟩
  have hv1 : XT H1 (.ref b) st := (hv.ex (Ex.new hd)).up t1
  have ex1 : Ex H H1 := fun a oo ha => by
    have hne : a ≠ d := fun z => by
      subst z
      rw [hd] at ha
      exact nomatch ha
    rw [ko1 a hne, upd_ne hne]
    exact ha
  refine (el_lst (eva_cons (ev_var rfl) eva_nil) (by show 1 ≤ 100000; decide) : EvL (tLst (tCons (tVar 0) tNil)) [some (.ref b), some g, none, none, none, none, none, none] H1 [.ref b]) H1 (Ex.refl _) _ fun ll H2 f2 e2 h2 => ⟨_, _, rfl, ?_⟩
  refine q_while (fun m σ' H' => ∃ ll vs ly f' kvs y4 y5 y6 y7, σ' = [some (.ref b), some g, some (.ref d), some (.ref ll), y4, y5, y6, y7] ∧ Ex H H' ∧ DX P w H' d kvs ∧ FdV K H' kvs f' ∧ H' ll = some (.lst vs) ∧ LyV H' vs ly ∧ walkedF goal m f' ly = some f) m
    ⟨ll, _, [st], [(st, none)], _, none, none, none, none, rfl, ex1.trans e2, dx1.ext e2, .cons ⟨rfl, rfl⟩ .nil, h2, .cons (hv1.ex e2) .nil, hf⟩ fun m' σ' H3 hw => ?_
  obtain ⟨ll, vs, ly, f', kvs, y4, y5, y6, y7, rfl, eH, dx, fv, hl, lv, hm⟩ := hw
  cases m' with
  | zero => exact nomatch hm
  | succ m' =>
    unfold walkedF at hm
    refine ⟨!decide (ly = []) && !hasG f' goal, et_and (et_test (ev_neLsL (es := []) (ev_var rfl) (sq_of hl) lv.rps edL_nil (shaped_tT ly).1 (shaped_tT []).1 (eqvL_tI ly []))) fun _ => ?_, fun hb H4 e4 => ?_, fun hb H4 e4 => ?_⟩
    · cases goal with
      | none =>
        cases hg
        exact fun H5 e5 Q5 q5 => ⟨_, rfl, _, rfl, Or.inr ⟨d, kvs, rfl, rfl, dx.ext e5, _, rfl, q5 H5 (Ex.refl _)⟩⟩
      | some gp =>
        obtain ⟨bg, og, rfl, hbg, hog⟩ := id (show XT H g gp from hg)
        exact fun H5 e5 Q5 q5 => ⟨_, rfl, _, rfl, Or.inl ⟨bg, d, kvs, gp, rfl, rfl, dx.ext e5, (((show XT H (.ref bg) gp from hg).ex eH).ex e5).sq, _, rfl, by rw [fv.has]; exact q5 H5 (Ex.refl _)⟩⟩
    · rw [Bool.and_eq_true] at hb
      have h1 : ¬ ly = [] := by simpa using hb.1
      have h2 : hasG f' goal = false := by simpa using hb.2
      rw [if_neg h1, h2, if_neg Bool.false_ne_true] at hm
      refine ⟨fun σ' H' => ∃ ll vs ly f' kvs y4 y5 y6 y7, σ' = [some (.ref b), some g, some (.ref d), some (.ref ll), y4, y5, y6, y7] ∧ Ex H H' ∧ DX P w H' d kvs ∧ FdV K H' kvs f' ∧ H' ll = some (.lst vs) ∧ LyV H' vs ly ∧ walkedF goal m' f' ly = some f, fun σ2 H5 z => ⟨m', Nat.lt_succ_self _, z⟩, ?_⟩
      cases hs : layerF ly (f', []) with
      | none => rw [hs] at hm; exact nomatch hm
      | some sE =>
        rw [hs] at hm
        have hm : walkedF goal m' sE.1 sE.2 = some f := hm
        refine q_asgM (K := K) edL_nil fun lt ws H5 f5 e5 h5 r5 => ?_
        cases r5
        have e45 := e4.trans e5
        have hl5 := e45 _ _ hl
        have flt : H lt = none := fresh_back (eH.trans e4) f5
        have hne : ll ≠ lt := fun z => by
          subst z
          rw [e4 _ _ hl] at f5
          exact nomatch f5
        refine q_forLn (K := K) (ev_var rfl) (sq_of hl5) (fun i σ' H' => ∃ y5 y6 y7 s, σ' = [some (.ref b), some g, some (.ref d), some (.ref ll), some (.ref lt), y5, y6, y7] ∧ Inn P w K H H' d ll lt vs ly s ∧ layerF (ly.drop i) s = some sE)
          (fun H6 e6 => ⟨y5, y6, y7, (f', []), rfl, ⟨(eH.trans e45).trans e6, hd, flt, ⟨kvs, dx.ext (e45.trans e6), fv.up (exT (e45.trans e6))⟩, (e6 _ _ hl5), lv.up (exT (e45.trans e6)), ⟨[], e6 _ _ h5, .nil⟩, hne⟩, hs⟩)
          (fun i σ' H' _ pv => by obtain ⟨_, _, _, _, _, inn, _⟩ := pv; exact sq_of inn.la) (fun i x σ' H' hx pv => ?_) (fun σ' H' pv => ?_)
        · obtain ⟨y5, y6, y7, s, rfl, inn, hly⟩ := pv
          have hvl : vs.length = ly.length := Paired.length inn.lv
          have hi : i < ly.length := by rw [← hvl]; exact (List.getElem?_eq_some_iff.mp hx).1
          rw [List.drop_eq_getElem_cons hi] at hly
          unfold layerF at hly
          cases hsp : stepP ly[i] s with
          | none => rw [hsp] at hly; exact nomatch hly
          | some s2 =>
            rw [hsp] at hly
            have hly : layerF (ly.drop (i + 1)) s2 = some sE := hly
            unfold stepP at hsp
            by_cases hok : (okP ly[i] && (decide (s.1.length < 5000) && decide (s.2.length < 5000))) = true
            · rw [if_pos hok] at hsp
              cases hsp
              rw [Bool.and_eq_true, Bool.and_eq_true] at hok
              obtain ⟨ok, z1, z2⟩ := hok
              have z1 := of_decide_eq_true z1
              have z2 := of_decide_eq_true z2
              have xx : XT H' x ly[i] := inn.lv.at hx (List.getElem?_eq_getElem hi)
              have sl : ∀ k, (stepK k ly[i] s).1.length ≤ s.1.length + 1 ∧ (stepK k ly[i] s).2.length ≤ s.2.length + 1 := fun k => by
                unfold stepK
                split
                · exact ⟨by omega, by omega⟩
                · simp
              refine s_forT (K := K) (ev_c (v := .ref (He.ga K "WALKED"))) (W.walked _) (fun i2 σ' H' => ∃ y6 y7, σ' = [some (.ref b), some g, some (.ref d), some (.ref ll), some (.ref lt), some x, y6, y7] ∧ XT H' x ly[i] ∧ Inn P w K H H' d ll lt vs ly (if i2 = 0 then s else if i2 = 1 then stepK true ly[i] s else stepK false ly[i] (stepK true ly[i] s)))
                (fun H6 e6 => ⟨y6, y7, rfl, xx.ex e6, inn.go e6⟩) (fun i2 σ' H' _ _ => W.walked _) (fun i2 k σ' H6 hk pv => ?_) (fun σ' H6 pv => ?_)
              · obtain ⟨y6, y7, rfl, x6, inn6⟩ := pv
                match i2, hk, inn6 with
                | 0, hk, inn6 =>
                  cases hk
                  exact walk_turn (s := s) (k := true) inn6 x6 ok (by show s.1.length < 50000; omega) (by show s.2.length < 50000; omega) fun y7 H7 in7 t7 => ⟨_, _, rfl, x6.up t7, in7⟩
                | 1, hk, inn6 =>
                  cases hk
                  have := sl true
                  exact walk_turn (s := stepK true ly[i] s) (k := false) inn6 x6 ok (by show (stepK true ly[i] s).1.length < 50000; omega) (by show (stepK true ly[i] s).2.length < 50000; omega) fun y7 H7 in7 t7 => ⟨_, _, rfl, x6.up t7, in7⟩
                | n + 2, hk, _ => exact nomatch hk
              · obtain ⟨y6, y7, rfl, x6, inn6⟩ := pv
                exact ⟨_, _, _, _, rfl, inn6, hly⟩
            · rw [if_neg hok] at hsp
              exact nomatch hsp
        · obtain ⟨y5, y6, y7, s, rfl, inn, hly⟩ := pv
          have hvl : vs.length = ly.length := Paired.length inn.lv
          rw [hvl, List.drop_length] at hly
          cases hly
          obtain ⟨kvs', dx', fv'⟩ := inn.dx
          obtain ⟨ws, hws, lw⟩ := inn.lat
          exact s_asgL (el_list (ev_var rfl) (sq_of hws)) fun p H7 f7 e7 h7 => ⟨p, ws, _, _, kvs', _, _, _, _, rfl, inn.ex.trans e7, dx'.ext e7, fv'.up (exT e7), h7, lw.up (exT e7), hm⟩
    · have hf' : f' = f := by
        by_cases h1 : ly = []
        · rw [if_pos h1] at hm
          exact Option.some.inj hm
        · have h2 : hasG f' goal = true := by simpa [h1] using hb
          rw [if_neg h1, if_pos h2] at hm
          exact Option.some.inj hm
      subst hf'
      exact s_ret (ev_var rfl) fun H5 e5 => q H5 d kvs hd ((eH.trans e4).trans e5) (dx.ext (e4.trans e5)) (fv.up (exT (e4.trans e5)))
end PR
end
section
set_option Elab.async false
set_option linter.all false
set_option maxRecDepth 100000
set_option maxHeartbeats 4000000
/-! Classes and walks between. -/
namespace PR
open PySem PySem.Spec PyProof.Rows L2 Evl
section
variable {K : PySem.W.Frag} {P : Program} {w : World} {σ : L2.St} {H : Hp} {ta tb te : TE} {ns ms : List Int} {f : Fd} {ps : List (List Int)} {m : Nat}
def EvX (K : PySem.W.Frag) (P : Program) (w : World) (te : TE) (σ : L2.St) (H : Hp) (f : Fd) : Prop := ∀ H1, Ex H H1 → ∀ Q : VK, (∀ d kvs H2, Ex H1 H2 → DX P w H2 d kvs → FdV K H2 kvs f → Q (.ref d) H2) → te σ H1 Q
def EdXL (te : TE) (σ : L2.St) (H : Hp) (ps : List (List Int)) : Prop := ∀ H1, Ex H H1 → ∀ Q : VK, (∀ p ws H2, H1 p = none → Ex H1 H2 → H2 p = some (.lst ws) → LyV H2 ws ps → Q (.ref p) H2) → te σ H1 Q
def EdXT (K : PySem.W.Frag) (te : TE) (σ : L2.St) (H : Hp) (ps : List (List Int)) : Prop := ∀ H1, Ex H H1 → ∀ Q : VK, (∀ a ws H2, Ex H1 H2 → SqT K H2 a ws → LyV H2 ws ps → Q (.ref a) H2) → te σ H1 Q
theorem ewk_none (h1 : EdX ta σ H ns) (h2 : Ev tb σ H .non) (hf : walkedF none m [(ns, none)] [ns] = some f) : EvX K P w (tCall (spWalk K P w) [] E0 (tCons ta (tCons tb tNil))) σ H f := fun H1 e Q q =>
  h1 H1 e _ fun v H2 e2 x => h2 H2 (e.trans e2) _ fun H3 e3 => ⟨v, _, ns, none, m, f, rfl, x.ex e3, rfl, hf, fun H' d kvs _ e4 dx fv => q d kvs H' ((e2.trans e3).trans e4) dx fv⟩
theorem ewk_some (h1 : EdX ta σ H ns) (h2 : EdX tb σ H ms) (hf : walkedF (some ms) m [(ns, none)] [ns] = some f) : EvX K P w (tCall (spWalk K P w) [] E0 (tCons ta (tCons tb tNil))) σ H f := fun H1 e Q q =>
  h1 H1 e _ fun v H2 e2 x => h2 H2 (e.trans e2) _ fun v' H3 e3 x' => ⟨v, _, ns, some ms, m, f, rfl, x.ex e3, x', hf, fun H' d kvs _ e4 dx fv => q d kvs H' ((e2.trans e3).trans e4) dx fv⟩
theorem FdV.keys {kvs : List (List Int × V)} (h : FdV K H kvs f) : kvs.map (·.1) = f.map (·.1) := by
  unfold FdV at h
  induction h with
  | nil => rfl
  | cons a t ih => rw [List.map_cons, List.map_cons, a.1, ih]
theorem exl_sort (h : EvX K P w te σ H f) (hne : ∀ e ∈ f, e.1 ≠ []) : EdXL (tCB (rSortX P w) (tCons te tNil)) σ H (sortP (f.map (·.1))) := fun H1 e Q q =>
  h H1 e _ fun d kvs H2 e2 dx fv => ⟨d, kvs, rfl, dx, fun kv hkv => by
    have : kv.1 ∈ f.map (·.1) := by rw [← fv.keys]; exact List.mem_map.mpr ⟨kv, hkv, rfl⟩
    obtain ⟨e', he', z⟩ := List.mem_map.mp this
    rw [← z]
    exact hne e' he', fun p ws hp hw => q p ws _ (fresh_back e2 hp) (e2.trans (Ex.new hp)) upd_same (by
      rw [fv.keys] at hw
      exact LyV.up hw (exT (Ex.new hp)))⟩
theorem ext_tup (h : EdXL te σ H ps) : EdXT K (tCB (rTupS K) (tCons te tNil)) σ H ps := fun H1 e Q q =>
  h H1 e _ fun p ws H2 f2 e2 h2 lw => ⟨p, ws, rfl, Or.inl ⟨sq_of h2, fun l hl => q l ws _ (e2.trans (Ex.new hl)) (SqT.of upd_same) (lw.up (exT (Ex.new hl)))⟩⟩
theorem EdXT.ed (h : EdXT K te σ H ps) : Ed K te σ H (tT ps) := fun H1 e Q q => h H1 e _ fun a ws H2 e2 hs lw => q _ H2 e2 (.tup hs lw.rps)
end
def spClass (K : PySem.W.Frag) : Sp := fun vs H Q _ => ∃ a u l m f, vs = [.ref a] ∧ IsOrd K H a u l ∧ ordWhole u l = true ∧ walkedF none m [(plc u l, none)] [plc u l] = some f ∧ (∀ e ∈ f, e.1 ≠ []) ∧
  ∀ b ws H', Ex H H' → SqT K H' b ws → LyV H' ws (sortP (f.map (·.1))) → Q (.ref b) H'
theorem sc_class_of : FnScope ["order"] ["order"] (defScope (gF "class_of" 62).st) := ⟨rfl, rfl, rfl, by decide +kernel, rfl, by decide +kernel, by decide +kernel⟩
theorem c_class_of {P : Program} {w : World} {K : PySem.W.Frag} {mg : Str → Option Value} {base : Heap} (W : W0 K mg base) : Cal P w K mg base 4 (gF "class_of" 62) ["order"] (spClass K) := by
  refine Cal.of W 47 rfl sc_class_of (fun vs H Q E h => ?len) (fun _ _ _ _ _ _ us hl => match us, hl with | [_], _ => rfl) (fun cdv A outer s H vs Q E hr h => ?body)
  case len => obtain ⟨_, _, _, _, _, rfl, _⟩ := h; rfl
  have nd := sc_class_of.nd
  refine ⟨_, (pss_cons (ps_expr (k_cal K (c_require_whole W) (hr.mono (by decide)) rfl (W.g 10 rfl) (pa_cons (pv 0) pa_nil)))
      (pss_cons (ps_expr (k_cal K (c_require_few W) (hr.mono (by decide)) rfl (W.g 34 rfl) (pa_cons (pv 0) pa_nil)))
      (pss_one (ps_ret (pe_callTy (k_tuple K) rfl (W.f 2 rfl) bb_tuple (pa_cons (pe_callB (cr_sortX rfl hr.units) rfl (W.f 8 rfl) bb_sorted (pa_cons (k_cal K (c_walked W) (hr.mono (by decide)) rfl (W.g 35 rfl) (pa_cons (k_prop K (pv 0) W 2 rfl (c_Order_places W) (hr.mono (by decide))) (pa_cons pe_non pa_nil))) pa_nil)) pa_nil)))))), ?_⟩
  obtain ⟨a, u, l, m, f, rfl, ho, hw, hf, hne, q⟩ := h
  refine q_drop (v := .non) (ev_non (ed_callO (ev_var rfl) ho hw)) fun H1 e1 => ?_
  refine q_drop (v := .non) (ev_non (ed_callO (ev_var rfl) (ho.ex e1) trivial)) fun H2 e2 => ?_
  exact (ext_tup (K := K) (exl_sort (ewk_none (edX_propO (ev_var rfl) ((ho.ex e1).ex e2)) ev_c hf) hne)) H2 (Ex.refl _) _ fun b ws H3 e3 hs lw => q b ws H3 ((e1.trans e2).trans e3) hs lw
def lkOf : Fd → List Int → Option Lk
  | [], _ => none
  | e :: r, p => if e.1 = p then some e.2 else lkOf r p
def traceF (f : Fd) : Nat → List Int → Option (List Bool)
  | 0, _ => none
  | m + 1, here => match lkOf f here with
    | none => none
    | some none => some []
    | some (some (k, p)) => (traceF f m p).map (k :: ·)
theorem FdV.lk {K : PySem.W.Frag} {H : Hp} {kvs : List (List Int × V)} {f : Fd} (h : FdV K H kvs f) {p : List Int} {o : Lk} (hl : lkOf f p = some o) : ∃ v, valV kvs p = some v ∧ LkV K H v o := by
  unfold FdV at h
  induction h with
  | nil => exact nomatch hl
  | @cons a b as bs h t ih =>
    unfold lkOf at hl
    by_cases e : b.1 = p
    · rw [if_pos e] at hl
      cases hl
      exact ⟨a.2, valV_pos (h.1.trans e), h.2⟩
    · rw [if_neg e] at hl
      rw [valV_neg (by rw [h.1]; exact e)]
      exact ih hl
theorem g_two {K : PySem.W.Frag} {σ : L2.St} {H : Hp} {i j : Nat} {T : Addr} {x y : V} {Q : L2.St → Hp → Prop} (h : SqT K H T [x, y]) (k : Q ((σ.set i (some x)).set j (some y)) H) : gTup K 2 (gCons (gName i) (gCons (gName j) gNil)) (.ref T) σ H Q :=
  ⟨T, _, rfl, h, rfl, x, _, rfl, y, _, rfl, rfl, k⟩
theorem ev_twoC {K : PySem.W.Frag} {σ : L2.St} {H : Hp} {ta tb : TE} {a b : Addr} {u l u' l' : List Str} (h1 : Ev ta σ H (.ref a)) (h2 : Ev tb σ H (.ref b)) (ho : IsOrd K H a u l) (ho' : IsOrd K H b u' l') (hw : ordWhole u l = true) (hw' : ordWhole u' l' = true) : Ev (tCall (spTwo K) [] E0 (tCons ta (tCons tb tNil))) σ H .non := fun H1 e Q q =>
  h1 H1 e _ fun H2 e2 => h2 H2 (e.trans e2) _ fun H3 e3 => ⟨a, b, u, l, u', l', rfl, ho.ex ((e.trans e2).trans e3), ho'.ex ((e.trans e2).trans e3), hw, hw', fun H4 e4 => q H4 ((e2.trans e3).trans e4)⟩
theorem edL_revLs {K : PySem.W.Frag} {σ : L2.St} {H : Hp} {ta : TE} {p : Addr} {vs : List V} {ds : List PyData} (h : Ev ta σ H (.ref p)) (hp : SqL K H p vs) (rs : Rps K H vs ds) : EdL K (tRevL K ta) σ H ds.reverse := fun H1 e Q q =>
  h H1 e _ fun H2 e2 => ⟨p, vs, rfl, ex_l (e.trans e2) hp, fun l hl => q l _ _ (fresh_back e2 hl) (e2.trans (Ex.new hl)) upd_same ((rs.ex ((e.trans e2).trans (Ex.new hl))).rev)⟩
theorem et_dxNi {K : PySem.W.Frag} {P : Program} {w : World} {σ : L2.St} {H : Hp} {ta tb : TE} {d : Addr} {kvs : List (List Int × V)} {f : Fd} {p : List Int} (h1 : EdX ta σ H p) (h2 : Ev tb σ H (.ref d)) (dx : DX P w H d kvs) (fv : FdV K H kvs f) : EvT (tTest (tOp (rDxNi K P w) ta tb)) σ H (!hasK f p) := fun H1 e Q q =>
  h1 H1 e _ fun v H2 e2 x => h2 H2 (e.trans e2) _ fun H3 e3 => by
    obtain ⟨b, o, rfl, hb, _⟩ := id x
    exact Or.inl ⟨b, d, kvs, p, rfl, rfl, dx.ext ((e.trans e2).trans e3), (x.ex e3).sq, _, rfl, by rw [fv.has]; exact q H3 (e2.trans e3)⟩
theorem ev_dxget {K : PySem.W.Frag} {P : Program} {w : World} {σ : L2.St} {H : Hp} {ta tb : TE} {d : Addr} {kvs : List (List Int × V)} {p : List Int} {v : V} (h1 : Ev ta σ H (.ref d)) (h2 : EdX tb σ H p) (dx : DX P w H d kvs) (hv : valV kvs p = some v) : Ev (tDxGet K P w ta tb) σ H v := fun H1 e Q q =>
  h1 H1 e _ fun H2 e2 => h2 H2 (e.trans e2) _ fun y H3 e3 x => by
    obtain ⟨b, o, rfl, hb, _⟩ := id x
    exact ⟨d, b, kvs, p, v, rfl, rfl, dx.ext ((e.trans e2).trans e3), x.sq, hv, q H3 (e2.trans e3)⟩
/-- a walk found between two, or none -/
def spBetween (K : PySem.W.Frag) : Sp := fun vs H Q _ => ∃ a b u l u' l' m f, vs = [.ref a, .ref b] ∧ IsOrd K H a u l ∧ IsOrd K H b u' l' ∧ ordWhole u l = true ∧ ordWhole u' l' = true ∧ walkedF (some (plc u' l')) m [(plc u l, none)] [plc u l] = some f ∧
  ((hasK f (plc u' l') = false ∧ ∀ H', Ex H H' → Q .non H') ∨ (hasK f (plc u' l') = true ∧ ∃ n ks, traceF f n (plc u' l') = some ks ∧ ks.length ≤ 1000 ∧ ∀ v H', Ex H H' → Rp K H' v (tS (ks.reverse.map kindS)) → Q v H'))
theorem sc_walk_between : FnScope ["one", "other", "found", "here", "kinds", "kind"] ["one", "other"] (defScope (gF "walk_between" 64).st) := ⟨rfl, rfl, rfl, by decide +kernel, rfl, by decide +kernel, by decide +kernel⟩
theorem c_walk_between {P : Program} {w : World} {K : PySem.W.Frag} {mg : Str → Option Value} {base : Heap} (W : W0 K mg base) : Cal P w K mg base 5 (gF "walk_between" 64) ["one", "other"] (spBetween K) := by
  refine Cal.of W 49 rfl sc_walk_between (fun vs H Q E h => ?len) (fun _ _ _ _ _ _ us hl => match us, hl with | [_, _], _ => rfl) (fun cdv A outer s H vs Q E hr h => ?body)
  case len => obtain ⟨_, _, _, _, _, _, _, _, rfl, _⟩ := h; rfl
  have nd := sc_walk_between.nd
  refine ⟨_, (pss_cons (ps_expr (k_cal K (c_require_two W) (hr.mono (by decide)) rfl (W.g 37 rfl) (pa_cons (pv 0) (pa_cons (pv 1) pa_nil))))
      (pss_cons (ps_par (i := 2) (j := 3) rfl nd rfl rfl (by decide) rfl rfl (pa_cons (k_cal K (c_walked W) (hr.mono (by decide)) rfl (W.g 35 rfl) (pa_cons (k_prop K (pv 0) W 2 rfl (c_Order_places W) (hr.mono (by decide))) (pa_cons (k_prop K (pv 1) W 2 rfl (c_Order_places W) (hr.mono (by decide))) pa_nil))) (pa_cons (k_prop K (pv 1) W 2 rfl (c_Order_places W) (hr.mono (by decide))) pa_nil)) rfl)
      (pss_cons (ps_if (pt_cmpR (op_dxNi (hu_of hr)) (pv 3) (pv 2) (by with_unfolding_all rfl)) (pss_one (ps_ret pe_non)) pss_nil)
      (pss_cons (ps_set (i := 4) nd rfl (Or.inl rfl) (pe_lst pa_nil))
      (pss_cons (ps_while PassesOwn.never (pt_cmpR op_notN (pe_dxget (hu_of hr) (pv 2) (pv 3) (fun _ _ => rfl)) pe_non (nomark _)) (pss_cons (ps_asg (pe_dxget (hu_of hr) (pv 2) (pv 3) (fun _ _ => rfl)) (pg_tup rfl (pgs_cons (pg_name (i := 5) nd rfl (Or.inl rfl)) (pgs_cons (pg_name (i := 3) nd rfl (Or.inl rfl)) pgs_nil))))
      (pss_one (ps_expr (k_bm K PySem.F.plainAttrs_list PySem.F.slot_list_append PySem.F.type_list_append mt_append (pv 4) (pa_cons (pv 5) pa_nil))))))
      (pss_one (ps_ret (pe_callTy (k_tuple K) rfl (W.f 2 rfl) bb_tuple (pa_cons (pe_revL (pv 4)) pa_nil))))))))), ?_⟩
  obtain ⟨a, b, u, l, u', l', m, f, rfl, ho, ho', hw, hw', hf, q⟩ := h
  refine q_drop (v := .non) (ev_twoC (ev_var rfl) (ev_var rfl) ho ho' hw hw') fun H1 e1 => ?_
  have ho1 := ho.ex e1
  have ho1' := ho'.ex e1
  refine q_par ?_
  refine (ewk_some (K := K) (edX_propO (ev_var rfl) ho1) (edX_propO (ev_var rfl) ho1') hf) H1 (Ex.refl _) _ fun d kvs H2 e2 dx fv => ?_
  refine (edX_propO (σ := [some (.ref a), some (.ref b), none, none, none, none]) (ta := tVar 1) (ev_var rfl) (ho1'.ex e2)) H2 (Ex.refl _) _ fun hv H3 e3 hx => ⟨_, _, rfl, ?_⟩
  have dx3 := dx.ext e3
  have fv3 := fv.up (exT e3)
  have e03 := (e1.trans e2).trans e3
  refine q_when (et_dxNi (edX_var rfl hx) (ev_var rfl) dx3 fv3) (fun hb H4 e4 => ?_) fun hb H4 e4 => ?_
  · have hno : hasK f (plc u' l') = false := by simpa using hb
    rcases q with ⟨_, q⟩ | ⟨hyes, _⟩
    · exact s_ret ev_c fun H5 e5 => q H5 ((e03.trans e4).trans e5)
    · rw [hno] at hyes; exact nomatch hyes
  · have hyes : hasK f (plc u' l') = true := by simpa using hb
    rcases q with ⟨hno, _⟩ | ⟨_, n, ks, htr, hz, q⟩
    · rw [hno] at hyes; exact nomatch hyes
    · refine q_asgM (K := K) edL_nil fun pk ws H5 f5 e5 h5 r5 => ?_
      cases r5
      have e35 := e4.trans e5
      refine q_while (fun n' σ' H' => ∃ here hv y5, ∃ acc ks' : List Bool, σ' = [some (.ref a), some (.ref b), some (.ref d), some hv, some (.ref pk), y5] ∧ Ex H3 H' ∧ DX P w H' d kvs ∧ FdV K H' kvs f ∧ XT H' hv here ∧ H' pk = some (.lst ((acc.map kindS).map V.str)) ∧ traceF f n' here = some ks' ∧ acc ++ ks' = ks) n
        ⟨_, hv, none, [], ks, rfl, e35, dx3.ext e35, fv3.up (exT e35), hx.ex e35, h5, htr, rfl⟩ fun n' σ' H6 hw6 => ?_
      obtain ⟨here, hv, y5, acc, ks', rfl, e6, dx6, fv6, hx6, hp6, htr6, hks⟩ := hw6
      cases n' with
      | zero => exact nomatch htr6
      | succ n' =>
        unfold traceF at htr6
        cases hlk : lkOf f here with
        | none => rw [hlk] at htr6; exact nomatch htr6
        | some o =>
          obtain ⟨v, hvv, lkv⟩ := fv6.lk hlk
          have gt : ∀ {H7 : Hp}, Ex H6 H7 → Ev (tDxGet K P w (tVar 2) (tVar 3)) [some (.ref a), some (.ref b), some (.ref d), some hv, some (.ref pk), y5] H7 v := fun e7 => ev_dxget (ev_var rfl) (edX_var rfl (hx6.ex e7)) (dx6.ext e7) hvv
          refine ⟨o.isSome, et_test (fun H7 e7 Q7 q7 => gt e7 H7 (Ex.refl _) _ fun H8 e8 => ⟨rfl, ?_⟩), fun hb H7 e7 => ?_, fun hb H7 e7 => ?_⟩
          · cases o with
            | none => cases lkv; exact q7 H8 e8
            | some kp =>
              obtain ⟨T, x, rfl, _⟩ := lkv
              exact q7 H8 e8
          · cases o with
            | none => exact nomatch hb
            | some kp =>
              obtain ⟨k, p⟩ := kp
              obtain ⟨T, x, rfl, hT, hxx⟩ := lkv
              rw [hlk] at htr6
              cases htr : traceF f n' p with
              | none => simp [htr] at htr6
              | some ks2 =>
                have hk2 : ks' = k :: ks2 := by simpa [htr] using htr6.symm
                refine ⟨fun σ2 H' => ∃ here hv y5, ∃ acc ks' : List Bool, σ2 = [some (.ref a), some (.ref b), some (.ref d), some hv, some (.ref pk), y5] ∧ Ex H3 H' ∧ DX P w H' d kvs ∧ FdV K H' kvs f ∧ XT H' hv here ∧ H' pk = some (.lst ((acc.map kindS).map V.str)) ∧ traceF f n' here = some ks' ∧ acc ++ ks' = ks, fun σ2 H8 z => ⟨n', Nat.lt_succ_self _, z⟩, ?_⟩
                refine gt e7 H7 (Ex.refl _) _ fun H8 e8 => ?_
                refine g_two ((exT (e7.trans e8)).sq hT) ?_
                have hp8 := (e7.trans e8) _ _ hp6
                have al : acc.length ≤ 1000 := by
                  have := congrArg List.length hks
                  rw [List.length_append] at this
                  omega
                refine s_app hp8 (ev_var rfl) (ev_var rfl) (by rw [List.length_map, List.length_map]; omega) fun H9 e9 => ?_
                have hp9 := e9 _ _ hp8
                have e69 := (e7.trans e8).trans e9
                have t9 : TEx H9 (upd H9 pk (.lst ((acc.map kindS).map V.str ++ [.str (kindS k)]))) := TEx.lst hp9
                refine ⟨p, x, _, acc ++ [k], ks2, rfl, Ex.mut (e6.trans e69) ?_, (dx6.ext e69).other ((dx6.ext e69).ne hp9) t9, (fv6.up (exT e69)).up t9, (hxx.up (exT e69)).up t9, ?_, htr, by rw [← hks, hk2, List.append_assoc] <;> rfl⟩
                · exact fresh_back e4 f5
                · rw [upd_same, List.map_append, List.map_append] <;> rfl
          · cases o with
            | some kp => exact nomatch hb
            | none =>
              rw [hlk] at htr6
              have : ks' = [] := by simpa using htr6.symm
              subst this
              rw [List.append_nil] at hks
              subst hks
              have hp7 := e7 _ _ hp6
              refine s_retD (ed_tupL (edL_is (edL_revLs (ev_var rfl) (sq_of hp7) (rps_strs _)) ?_)) fun v H8 e8 r => q v H8 (((e03.trans e6).trans e7).trans e8) r
              rw [← List.map_reverse, ← List.map_reverse]
def spJoined (K : PySem.W.Frag) : Sp := fun vs H Q _ => ∃ a b u l u' l' m f, vs = [.ref a, .ref b] ∧ IsOrd K H a u l ∧ IsOrd K H b u' l' ∧ ordWhole u l = true ∧ ordWhole u' l' = true ∧ walkedF (some (plc u' l')) m [(plc u l, none)] [plc u l] = some f ∧
  (hasK f (plc u' l') = true → ∃ n ks, traceF f n (plc u' l') = some ks ∧ ks.length ≤ 1000) ∧ ∀ H', Ex H H' → Q (.bl (hasK f (plc u' l'))) H'
theorem sc_are_joined : FnScope ["one", "other"] ["one", "other"] (defScope (gF "are_joined" 65).st) := ⟨rfl, rfl, rfl, by decide +kernel, rfl, by decide +kernel, by decide +kernel⟩
theorem c_are_joined {P : Program} {w : World} {K : PySem.W.Frag} {mg : Str → Option Value} {base : Heap} (W : W0 K mg base) : Cal P w K mg base 6 (gF "are_joined" 65) ["one", "other"] (spJoined K) := by
  refine Cal.of W 50 rfl sc_are_joined (fun vs H Q E h => ?len) (fun _ _ _ _ _ _ us hl => match us, hl with | [_, _], _ => rfl) (fun cdv A outer s H vs Q E hr h => ?body)
  case len => obtain ⟨_, _, _, _, _, _, _, _, rfl, _⟩ := h; rfl
  have nd := sc_are_joined.nd
  refine ⟨_, (pss_one (ps_ret (pe_cmpR op_notN (k_cal K (c_walk_between W) (hr.mono (by decide)) rfl (W.g 38 rfl) (pa_cons (pv 0) (pa_cons (pv 1) pa_nil))) pe_non (nomark _)))), ?_⟩
  obtain ⟨a, b, u, l, u', l', m, f, rfl, ho, ho', hw, hw', hf, htr, q⟩ := h
  refine ⟨_, rfl, _, rfl, a, b, u, l, u', l', m, f, rfl, ho, ho', hw, hw', hf, ?_⟩
  cases hb : hasK f (plc u' l') with
  | false =>
    rw [hb] at q
    exact Or.inl ⟨rfl, fun H1 e1 => ⟨rfl, q H1 e1⟩⟩
  | true =>
    rw [hb] at q
    obtain ⟨n, ks, h1, h2⟩ := htr hb
    refine Or.inr ⟨rfl, n, ks, h1, h2, fun v H1 e1 r => ?_⟩
    obtain ⟨c, xs, rfl, _⟩ := rp_tup r
    exact ⟨rfl, q H1 e1⟩
def runF : List Bool → List Int → Option (List Int)
  | [], p => some p
  | k :: r, p => if okP p then runF r (nextI k p) else none
theorem eqT_ints (a b : List Int) : PyData.eqv (tI a) (tI b) = decide (a = b) := eqv_ints a b
def spIsWalk (K : PySem.W.Frag) : Sp := fun vs H Q _ => ∃ (a b : Addr) (v : V) (u l u' l' : List Str) (ks : List Bool) (p : List Int), vs = [.ref a, .ref b, v] ∧ IsOrd K H a u l ∧ IsOrd K H b u' l' ∧ ordWhole u l = true ∧ ordWhole u' l' = true ∧ Rp K H v (tS (ks.map kindS)) ∧ ks.length ≤ 1000 ∧
  runF ks (plc u l) = some p ∧ ∀ H', Ex H H' → Q (.bl (decide (p = plc u' l'))) H'
theorem sc_is_walk : FnScope ["one", "other", "value", "places", "kind"] ["one", "other", "value"] (defScope (gF "is_walk" 66).st) := ⟨rfl, rfl, rfl, by decide +kernel, rfl, by decide +kernel, by decide +kernel⟩
theorem c_is_walk {P : Program} {w : World} {K : PySem.W.Frag} {mg : Str → Option Value} {base : Heap} (W : W0 K mg base) : Cal P w K mg base 3 (gF "is_walk" 66) ["one", "other", "value"] (spIsWalk K) := by
  refine Cal.of W 51 rfl sc_is_walk (fun vs H Q E h => ?len) (fun _ _ _ _ _ _ us hl => match us, hl with | [_, _, _], _ => rfl) (fun cdv A outer s H vs Q E hr h => ?body)
  case len => obtain ⟨_, _, _, _, _, _, _, _, _, rfl, _⟩ := h; rfl
  have nd := sc_is_walk.nd
  refine ⟨_, (pss_cons (ps_expr (k_cal K (c_require_whole W) (hr.mono (by decide)) rfl (W.g 10 rfl) (pa_cons (pv 0) pa_nil)))
      (pss_cons (ps_expr (k_cal K (c_require_whole W) (hr.mono (by decide)) rfl (W.g 10 rfl) (pa_cons (pv 1) pa_nil)))
      (pss_cons (ps_if (pt_not (pt_val (k_cal K (c_is_course W) (hr.mono (by decide)) rfl (W.g 32 rfl) (pa_cons (pv 2) pa_nil)))) (pss_one (ps_ret pe_bl)) pss_nil)
      (pss_cons (ps_set (i := 3) nd rfl (Or.inl rfl) (k_prop K (pv 0) W 2 rfl (c_Order_places W) (hr.mono (by decide))))
      (pss_cons (ps_for PassesOwn.never rfl (k_pi_tup K (pv 2)) (pg_name (i := 4) nd rfl (Or.inl rfl)) (pss_one (ps_set (i := 3) nd rfl (Or.inl rfl) (k_cal K (c_next_places W) (hr.mono (by decide)) rfl (W.g 33 rfl) (pa_cons (pv 3) (pa_cons (pv 4) pa_nil))))))
      (pss_one (ps_ret (pe_cmpR (k_eqD K hr.units) (pv 3) (k_prop K (pv 1) W 2 rfl (c_Order_places W) (hr.mono (by decide))) (nomark _))))))))), ?_⟩
  obtain ⟨a, b, v, u, l, u', l', ks, p, rfl, ho, ho', hw, hw', hv, hz, hr', q⟩ := h
  refine q_drop (v := .non) (ev_non (ed_callO (ev_var rfl) ho hw)) fun H1 e1 => ?_
  refine q_drop (v := .non) (ev_non (ed_callO (ev_var rfl) (ho'.ex e1) hw')) fun H2 e2 => ?_
  have e12 := e1.trans e2
  refine q_when (b := false) (et_is (et_not (et_B (b := true) (fun H3 e3 Q3 q3 => ⟨_, rfl, v, ks, rfl, (hv.ex e12).ex e3, hz, fun H4 e4 => q3 H4 e4⟩))) rfl) (fun z => nomatch z) fun _ H3 e3 => ?_
  have e13 := e12.trans e3
  refine q_asgX (edX_propO (ev_var rfl) (ho.ex e13)) fun pv H4 e4 hx => ?_
  have e14 := e13.trans e4
  refine q_forD (K := K) (edI_tup (ed_var rfl (hv.ex e14))) (fun H5 i σ' H' => ∃ pv y4 p', σ' = [some (.ref a), some (.ref b), some v, some pv, y4] ∧ Ex H H' ∧ TEx H5 H' ∧ XT H' pv p' ∧ runF (ks.drop i) p' = some p)
    (fun H5 e5 => ⟨pv, none, _, rfl, e14.trans e5, TEx.refl _, hx.ex e5, hr'⟩) (fun H5 i σ' H' _ _ pv => by obtain ⟨_, _, _, _, _, t, _⟩ := pv; exact t) (fun H5 i d x σ' H' H'' e5 hd pv e6 rx => ?_) (fun H5 σ' H' e5 pv => ?_)
  · obtain ⟨pv, y4, p', rfl, eH, tH, hx', hru⟩ := pv
    have hi : i < ks.length := by simpa using (List.getElem?_eq_some_iff.mp hd).1
    rw [List.getElem?_map, List.getElem?_map, List.getElem?_eq_getElem hi] at hd
    cases hd
    cases rx
    rw [List.drop_eq_getElem_cons hi] at hru
    unfold runF at hru
    by_cases ok : okP p' = true
    · rw [if_pos ok] at hru
      exact (edX_next (edX_var rfl (hx'.ex e6)) (ev_var rfl) ok) H'' (Ex.refl _) _ fun v' H7 e7 x' => ⟨v', _, _, rfl, (eH.trans e6).trans e7, tH.trans (exT (e6.trans e7)), x', hru⟩
    · rw [if_neg ok] at hru
      exact nomatch hru
  · obtain ⟨pv, y4, p', rfl, eH, tH, hx', hru⟩ := pv
    rw [List.length_map, List.length_map, List.drop_length] at hru
    cases hru
    exact s_ret (ev_eqD (edX_var rfl hx').ed (edX_propO (ev_var rfl) (ho'.ex eH)).ed (shaped_ints _).2 (shaped_ints _).2 (eqT_ints _ _)) fun H6 e6 => q H6 (eH.trans e6)
end PR
end
section
set_option Elab.async false
set_option linter.all false
set_option maxRecDepth 100000
set_option maxHeartbeats 4000000
/-! The law's dice. -/
namespace PR
open PySem PySem.Spec PyProof.Rows L2 Evl
/-- all but the thing at p stays -/
def Kp (p : Addr) (H H' : Hp) : Prop := ∀ b o, b ≠ p → H b = some o → H' b = some o
theorem Kp.refl {p : Addr} (H : Hp) : Kp p H H := fun _ _ _ h => h
theorem Kp.trans {p : Addr} {H H1 H2 : Hp} (k : Kp p H H1) (k' : Kp p H1 H2) : Kp p H H2 := fun b o h1 h => k' b o h1 (k b o h1 h)
theorem Kp.ex {p : Addr} {H H1 : Hp} (e : Ex H H1) : Kp p H H1 := fun b o _ h => e b o h
theorem Kp.upd {p : Addr} {H : Hp} {o : HO} : Kp p H (upd H p o) := fun b o' h1 h => by rw [upd_ne h1]; exact h
theorem Kp.mut {p q : Addr} {H H' : Hp} {o : HO} (k : Kp p H H') (hq : H q = none) : Kp p H (L2.upd H' q o) := fun b o' h1 h => by
  rw [upd_ne (by rintro rfl; rw [hq] at h; exact nomatch h)]
  exact k b o' h1 h
/-- a new thing is made under it: what stood before stays but p -/
theorem Kp.ex0 {p : Addr} {H0 H H' : Hp} (e : Ex H0 H) (hp : H0 p = none) (k : Kp p H H') : Ex H0 H' := fun b o h => k b o (by rintro rfl; rw [hp] at h; exact nomatch h) (e b o h)
def Dice (H : Hp) (p : Addr) (n : Nat) : Prop := ∃ a b c : Int, H p = some (.lst [.int a, .int b, .int c]) ∧ 0 ≤ a ∧ 0 ≤ b ∧ b < 10 ^ 30 ∧ 0 ≤ c ∧ c ≤ n
theorem Dice.ex {H H' : Hp} {p : Addr} {n : Nat} (h : Dice H p n) (e : Ex H H') : Dice H' p n := by
  obtain ⟨a, b, c, h1, h2⟩ := h
  exact ⟨a, b, c, e _ _ h1, h2⟩
theorem Dice.kt {H H' : Hp} {p : Addr} {n : Nat} (h : Dice H p n) (k : Kp p H H') : TEx H H' := by
  obtain ⟨a, b, c, h1, _⟩ := h
  have fz : ∀ q w u, H q = some (.frz w u) → q ≠ p := fun q w u r => by rintro rfl; rw [h1] at r; exact nomatch r
  refine ⟨fun q xs r => ?_, fun q w u r => k _ _ (fz q w u r) r⟩
  rcases r with r | ⟨w, r⟩
  · exact .inl (k _ _ (by rintro rfl; rw [h1] at r; exact nomatch r) r)
  · exact .inr ⟨w, k _ _ (fz q _ _ r) r⟩
def spDice (K : PySem.W.Frag) : Sp := fun vs H Q _ => ∃ (a : Addr) (ns : List Int) (i : Nat), vs = [.ref a, .int (i : Int)] ∧ SqL K H a (ns.map V.int) ∧ i < 10 ∧ ∀ p H', H p = none → Ex H H' → Dice H' p 0 → Q (.ref p) H'
theorem sc__law_dice : FnScope ["_law_script", "_law_spot", "_law_cell", "_law_left"] ["_law_script", "_law_spot"] (defScope (gF "_law_dice" 69).st) := ⟨rfl, rfl, rfl, by decide +kernel, rfl, by decide +kernel, by decide +kernel⟩
theorem c__law_dice {P : Program} {w : World} {K : PySem.W.Frag} {mg : Str → Option Value} {base : Heap} (W : W0 K mg base) : Cal P w K mg base 1 (gF "_law_dice" 69) ["_law_script", "_law_spot"] (spDice K) := by
  refine Cal.of W 53 rfl sc__law_dice (fun vs H Q E h => ?len) (fun _ _ _ _ _ _ us hl => match us, hl with | [_, _], _ => rfl) (fun cdv A outer s H vs Q E hr h => ?body)
  case len => obtain ⟨_, _, _, rfl, _⟩ := h; rfl
  have nd := sc__law_dice.nd
  refine ⟨_, (pss_cons (ps_set (i := 2) nd rfl (Or.inl rfl) (pe_ifExp (pt_cmpR op_lt (pv 1) (pe_callB (k_len K) rfl (W.f 0 rfl) bb_len (pa_cons (pv 0) pa_nil)) (nomark _)) (pe_callTy call_int1 rfl (W.f 4 rfl) bb_int (pa_cons (pe_ix (k_ixL K) (pv 0) (pv 1) (fun _ _ => rfl)) pa_nil)) (pe_op op_add (pe_op op_mul pe_int (pv 1)) pe_int)))
      (pss_cons (ps_set (i := 3) nd rfl (Or.inl rfl) (pe_op op_mod (pe_callB (call_max2 rfl) rfl (W.f 12 rfl) bb_max (pa_cons pe_int (pa_cons (pe_op op_sub (pe_callB call_abs rfl (W.f 19 rfl) bb_abs (pa_cons (pv 2) pa_nil)) (pe_op op_pow pe_int pe_int)) pa_nil))) (pe_op op_mulW (pe_op op_pow pe_int pe_int) (pe_op op_pow pe_int pe_int))))
      (pss_one (ps_ret (pe_lst (pa_cons (pv 3) (pa_cons (pe_op op_add (pe_op op_add (pe_op op_add (pe_op op_mul (pe_op op_mod (pe_callB call_abs rfl (W.f 19 rfl) bb_abs (pa_cons (pv 2) pa_nil)) pe_int) pe_int) (pe_op op_mul pe_int (pv 1))) (pe_op op_mul pe_int (pe_callTy call_int1 rfl (W.f 4 rfl) bb_int (pa_cons (pe_cmpR op_lt (pv 2) pe_int (nomark _)) pa_nil)))) pe_int) (pa_cons pe_int pa_nil)))))))), ?_⟩
  obtain ⟨a, ns, i, rfl, hs, hi, q⟩ := h
  have hlen : (ns.map V.int).length = ns.length := List.length_map ..
  refine q_asg (v := .int (if i < ns.length then ns.getD i 0 else 67 * i + 19)) ?_ fun H1 e1 => ?_
  · refine ev_if (b := decide ((i : Int) < ((ns.map V.int).length : Int))) (et_test (ev_op (ev_var rfl) (ev_len (ev_var rfl) hs) rv_I0)) (fun hb => ?_) fun hb => ?_
    · have hb := of_decide_eq_true hb
      rw [hlen] at hb
      have hb' : i < ns.length := by omega
      rw [if_pos hb']
      exact ev_intI (ev_op (ev_var rfl) (ev_var rfl) (rv_ixL hs (atI_nat (by rw [List.getElem?_map, List.getD_eq_getElem?_getD, List.getElem?_eq_getElem hb'] <;> rfl))))
    · have hb := of_decide_eq_false hb
      rw [hlen] at hb
      rw [if_neg (by omega)]
      exact ev_op (ev_op ev_c (ev_var rfl) (rv_I (Or.inl ⟨by decide, by decide⟩))) ev_c rv_I0
  · generalize (if i < ns.length then ns.getD i 0 else 67 * (i : Int) + 19) = cell
    have ab : ∀ {σ : L2.St} {H1 : Hp}, σ[2]? = some (some (.int cell)) → Ev (tCB (fun xs H Q => ∃ i, xs = [.int i] ∧ Q (.int (if i < 0 then -i else i)) H) (tCons (tVar 2) tNil)) σ H1 (.int (if cell < 0 then -cell else cell)) := fun hσ H2 e2 Q q2 => ⟨_, hσ, cell, rfl, q2 H2 (Ex.refl _)⟩
    have c0 : 0 ≤ (if cell < 0 then -cell else cell) := by split <;> omega
    generalize hcl : (if cell < 0 then -cell else cell) = ac at ab c0
    refine q_asg (v := .int ((if ac - 10 ^ (16 : Int).toNat > 0 then ac - 10 ^ (16 : Int).toNat else 0) % (10 ^ (60 : Int).toNat * 10 ^ (60 : Int).toNat))) (ev_op (ev_max2 ev_c (ev_op (ab rfl) (ev_op ev_c ev_c (rv_I ⟨by decide, by decide, by decide⟩)) rv_I0)) (ev_op (ev_op ev_c ev_c (rv_I ⟨by decide, by decide, by decide⟩)) (ev_op ev_c ev_c (rv_I ⟨by decide, by decide, by decide⟩)) (rv_I (by unfold CMulW; decide +kernel))) (rv_I (by decide +kernel))) fun H2 e2 => ?_
    have l0 := Int.emod_nonneg (if ac - 10 ^ (16 : Int).toNat > 0 then ac - 10 ^ (16 : Int).toNat else 0) (show (10 ^ (60 : Int).toNat * 10 ^ (60 : Int).toNat : Int) ≠ 0 by decide +kernel)
    generalize (if ac - 10 ^ (16 : Int).toNat > 0 then ac - 10 ^ (16 : Int).toNat else 0) % (10 ^ (60 : Int).toNat * 10 ^ (60 : Int).toNat) = left at l0 ⊢
    have m0 := Int.emod_nonneg ac (show (1152921504606846883 : Int) ≠ 0 by decide)
    have m1 := Int.emod_lt_of_pos ac (show (0 : Int) < 1152921504606846883 by decide)
    refine s_retL (el_lst (vs := [.int left, .int (ac % 1152921504606846883 * 47 + 809 * i + 31 * (if decide (cell < 0) = true then 1 else 0) + 7), .int 0]) (eva_cons (ev_var rfl) (eva_cons (ev_op (ev_op (ev_op (ev_op (ev_op (ab rfl) ev_c (rv_I (by decide))) ev_c (rv_I (Or.inr ⟨by decide, by decide⟩))) (ev_op ev_c (ev_var rfl) (rv_I (Or.inl ⟨by decide, by decide⟩))) rv_I0) (ev_op ev_c (ev_intB (ev_op (ev_var rfl) ev_c rv_I0)) (rv_I (Or.inl ⟨by decide, by decide⟩))) rv_I0) ev_c rv_I0) (eva_cons ev_c eva_nil))) (by show 3 ≤ 100000; decide)) fun p H3 f3 e3 h3 => q p H3 (fresh_back (e1.trans e2) f3) ((e1.trans e2).trans e3) ⟨left, _, 0, h3, l0, ?_, ?_, Int.le_refl _, Int.le_refl _⟩
    · split <;> omega
    · split <;> omega
def spRoll : Sp := fun vs H Q _ => ∃ (p : Addr) (n : Nat) (t : Int), vs = [.ref p, .int t] ∧ Dice H p n ∧ n < 100000 ∧ 1 ≤ t ∧ t ≤ 1000 ∧ ∀ (r : Int) H', 0 ≤ r → r < t → Kp p H H' → Dice H' p (n + 1) → Q (.int r) H'
theorem sc__law_roll : FnScope ["_law_dice_here", "_law_total", "_law_found", "_law_one", "_law_two"] ["_law_dice_here", "_law_total"] (defScope (gF "_law_roll" 70).st) := ⟨rfl, rfl, rfl, by decide +kernel, rfl, by decide +kernel, by decide +kernel⟩
theorem c__law_roll {P : Program} {w : World} {K : PySem.W.Frag} {mg : Str → Option Value} {base : Heap} (W : W0 K mg base) : Cal P w K mg base 1 (gF "_law_roll" 70) ["_law_dice_here", "_law_total"] (spRoll) := by
  refine Cal.of W 54 rfl sc__law_roll (fun vs H Q E h => ?len) (fun _ _ _ _ _ _ us hl => match us, hl with | [_, _], _ => rfl) (fun cdv A outer s H vs Q E hr h => ?body)
  case len => obtain ⟨_, _, _, rfl, _⟩ := h; rfl
  have nd := sc__law_roll.nd
  refine ⟨_, (pss_cons (ps_if (pt_cmpR op_gt (pe_ix (k_ixL K) (pv 0) pe_int (fun _ _ => rfl)) pe_int (nomark _)) (pss_cons (ps_set (i := 2) nd rfl (Or.inl rfl) (pe_op op_mod (pe_callTy call_int1 rfl (W.f 4 rfl) bb_int (pa_cons (pe_ix (k_ixL K) (pv 0) pe_int (fun _ _ => rfl)) pa_nil)) (pv 1)))
      (pss_cons (ps_asg (pe_op op_fdiv (pe_ix (k_ixL K) (pv 0) pe_int (fun _ _ => rfl)) (pv 1)) (pg_sub (pv 0) pe_int set_list))
      (pss_one (ps_ret (pv 2))))) pss_nil)
      (pss_cons (ps_asg (pe_op op_add (pe_ix (k_ixL K) (pv 0) pe_int (fun _ _ => rfl)) pe_int) (pg_sub (pv 0) pe_int set_list))
      (pss_cons (ps_set (i := 3) nd rfl (Or.inl rfl) (pe_op op_mod (pe_callTy call_int1 rfl (W.f 4 rfl) bb_int (pa_cons (pe_op op_add (pe_ix (k_ixL K) (pv 0) pe_int (fun _ _ => rfl)) (pe_op op_mul pe_int (pe_ix (k_ixL K) (pv 0) pe_int (fun _ _ => rfl)))) pa_nil)) pe_int))
      (pss_cons (ps_set (i := 4) nd rfl (Or.inl rfl) (pe_op op_add (pe_op op_mul (pe_op op_mod (pe_callTy call_int1 rfl (W.f 4 rfl) bb_int (pa_cons (pe_op op_add (pe_op op_mul (pv 3) (pv 3)) (pe_op op_mul pe_int (pe_ix (k_ixL K) (pv 0) pe_int (fun _ _ => rfl)))) pa_nil)) pe_int) pe_int) (pv 3)))
      (pss_one (ps_ret (pe_op op_mod (pe_callTy call_int1 rfl (W.f 4 rfl) bb_int (pa_cons (pe_op op_fdiv (pv 4) pe_int) pa_nil)) (pv 1)))))))), ?_⟩
  obtain ⟨p, n, t, rfl, ⟨a, b, c, hp, ha, hb, hb2, hc, hc2⟩, hn, t1, t2, q⟩ := h
  have g : ∀ {σ : L2.St} {H1 : Hp} {x y z : Int} {k v : Int}, H1 p = some (.lst [.int x, .int y, .int z]) → σ[0]? = some (some (.ref p)) → atI [V.int x, .int y, .int z] k = some (.int v) → Ev (tOp (rIxL K) (tVar 0) (tC (.int k))) σ H1 (.int v) := fun h1 hσ ha => ev_op (ev_var hσ) ev_c (rv_ixL (sq_of h1) ha)
  refine q_when (b := decide (0 < a)) (et_test (ev_op (g hp rfl (by rfl)) ev_c rv_I0)) (fun hb' H1 e1 => ?_) fun hb' H1 e1 => ?_
  · have hp1 := e1 _ _ hp
    refine q_asg (v := .int (a % t)) (ev_op (ev_intI (g hp1 rfl (by rfl))) (ev_var rfl) (rv_I (by omega))) fun H2 e2 => ?_
    have hp2 := e2 _ _ hp1
    refine q_setL (j := 0) hp2 (v := .int (a / t)) (ev_op (g hp2 rfl (by rfl)) (ev_var rfl) (rv_I ⟨by omega, by omega⟩)) (ev_var rfl) ev_c (by show 0 < 3; decide) fun H3 e3 => ?_
    refine s_ret (ev_var rfl) fun H4 e4 => q _ H4 (Int.emod_nonneg _ (by omega)) (Int.emod_lt_of_pos _ (by omega)) ((Kp.ex ((e1.trans e2).trans e3)).trans (Kp.upd.trans (Kp.ex e4))) ⟨a / t, b, c, e4 _ _ upd_same, Int.ediv_nonneg ha (by omega), hb, hb2, hc, by omega⟩
  · have hp1 := e1 _ _ hp
    refine q_setL (j := 2) hp1 (v := .int (c + 1)) (ev_op (g hp1 rfl (by rfl)) ev_c rv_I0) (ev_var rfl) ev_c (by show 2 < 3; decide) fun H2 e2 => ?_
    have hp2 : upd H2 p (HO.lst ([V.int a, .int b, .int c].set 2 (.int (c + 1)))) p = some (.lst [.int a, .int b, .int (c + 1)]) := upd_same
    have kp : Kp p H (upd H2 p (HO.lst ([V.int a, .int b, .int c].set 2 (.int (c + 1))))) := (Kp.ex (e1.trans e2)).trans Kp.upd
    generalize upd H2 p (HO.lst ([V.int a, .int b, .int c].set 2 (.int (c + 1)))) = H3 at hp2 kp ⊢
    have o1 := Int.emod_nonneg (b + 32452843 * (c + 1)) (show (2305843009213693951 : Int) ≠ 0 by decide)
    have o2 := Int.emod_lt_of_pos (b + 32452843 * (c + 1)) (show (0 : Int) < 2305843009213693951 by decide)
    refine q_asg (v := .int ((b + 32452843 * (c + 1)) % 2305843009213693951)) (ev_op (ev_intI (ev_op (g hp2 rfl (by rfl)) (ev_op ev_c (g hp2 rfl (by rfl)) (rv_I (Or.inl ⟨by decide, by decide⟩))) rv_I0)) ev_c (rv_I (by decide))) fun H4 e4 => ?_
    generalize (b + 32452843 * (c + 1)) % 2305843009213693951 = one at o1 o2 ⊢
    have hp4 := e4 _ _ hp2
    refine q_asg (v := .int ((one * one + 97 * (c + 1)) % 2305843009213693921 * 7368787 + one)) (ev_op (ev_op (ev_op (ev_intI (ev_op (ev_op (ev_var rfl) (ev_var rfl) (rv_I (Or.inl ⟨by omega, by omega⟩))) (ev_op ev_c (g hp4 rfl (by rfl)) (rv_I (Or.inl ⟨by decide, by decide⟩))) rv_I0)) ev_c (rv_I (by decide))) ev_c (rv_I (Or.inr ⟨by decide, by decide⟩))) (ev_var rfl) rv_I0) fun H5 e5 => ?_
    generalize (one * one + 97 * (c + 1)) % 2305843009213693921 * 7368787 + one = two
    refine s_ret (ev_op (ev_intI (ev_op (ev_var rfl) ev_c (rv_I ⟨by decide, by decide⟩))) (ev_var rfl) (rv_I (by omega))) fun H6 e6 => q _ H6 (Int.emod_nonneg _ (by omega)) (Int.emod_lt_of_pos _ (by omega)) (kp.trans (Kp.ex ((e4.trans e5).trans e6))) ⟨a, b, c + 1, (e5.trans e6) _ _ hp4, ha, hb, hb2, by omega, by omega⟩
end PR
end
section
set_option Elab.async false
set_option linter.all false
set_option maxRecDepth 100000
set_option maxHeartbeats 4000000
/-! What the law draws. -/
namespace PR
open PySem PySem.Spec PyProof.Rows L2 Evl
theorem Dice.ne {H : Hp} {p l : Addr} {n : Nat} {xs : List V} (h : Dice H p n) (hl : H l = none) : l ≠ p := by
  rintro rfl
  obtain ⟨a, b, c, h1, _⟩ := h
  rw [hl] at h1
  exact nomatch h1
theorem Kp.lst {H H' : Hp} {p l : Addr} {o : HO} (k : Kp p H H') (hne : l ≠ p) (h : H l = some o) : H' l = some o := k _ _ hne h
def spPick (K : PySem.W.Frag) : Sp := fun vs H Q _ => ∃ (p l : Addr) (n : Nat) (ss : List Str), vs = [.ref p, .ref l] ∧ Dice H p n ∧ n < 100000 ∧ H l = some (.lst (ss.map V.str)) ∧ l ≠ p ∧ 1 ≤ ss.length ∧ ss.length ≤ 1000 ∧ ∀ x H', x ∈ ss → Kp p H H' → Dice H' p (n + 1) → Q (.str x) H'
theorem sc__law_pick : FnScope ["_law_dice_here", "_law_items"] ["_law_dice_here", "_law_items"] (defScope (gF "_law_pick" 71).st) := ⟨rfl, rfl, rfl, by decide +kernel, rfl, by decide +kernel, by decide +kernel⟩
theorem c__law_pick {P : Program} {w : World} {K : PySem.W.Frag} {mg : Str → Option Value} {base : Heap} (W : W0 K mg base) : Cal P w K mg base 2 (gF "_law_pick" 71) ["_law_dice_here", "_law_items"] (spPick K) := by
  refine Cal.of W 55 rfl sc__law_pick (fun vs H Q E h => ?len) (fun _ _ _ _ _ _ us hl => match us, hl with | [_, _], _ => rfl) (fun cdv A outer s H vs Q E hr h => ?body)
  case len => obtain ⟨_, _, _, _, rfl, _⟩ := h; rfl
  have nd := sc__law_pick.nd
  refine ⟨_, (pss_one (ps_ret (pe_ix (k_ixL K) (pv 1) (k_cal K (c__law_roll W) (hr.mono (by decide)) rfl (W.g 43 rfl) (pa_cons (pv 0) (pa_cons (pe_callB (k_len K) rfl (W.f 0 rfl) bb_len (pa_cons (pv 1) pa_nil)) pa_nil))) (fun _ _ => rfl)))), ?_⟩
  obtain ⟨p, l, n, ss, rfl, hd, hn, hl, hne, z1, z2, q⟩ := h
  refine ⟨_, rfl, _, rfl, ?_⟩
  refine (ev_len (ev_var rfl) (sq_of hl) : Ev (tCB (rLenS K) (tCons (tVar 1) tNil)) [some (.ref p), some (.ref l)] H _) H (Ex.refl _) _ fun H1 e1 => ?_
  rw [List.length_map]
  refine ⟨p, n, ss.length, rfl, hd.ex e1, hn, by omega, by omega, fun r H2 r0 r1 k2 d2 => ?_⟩
  obtain ⟨j, rfl⟩ := Int.eq_ofNat_of_zero_le r0
  have hj : j < ss.length := by omega
  have h2 : H2 l = some (.lst (ss.map V.str)) := k2.lst hne (e1 _ _ hl)
  exact ⟨l, _, (j : Int), .str ss[j], rfl, rfl, sq_of h2, atI_nat (by rw [List.getElem?_map, List.getElem?_eq_getElem hj] <;> rfl), q _ H2 (List.getElem_mem hj) ((Kp.ex e1).trans k2) d2⟩
theorem map_erase {α β : Type} (f : α → β) (l : List α) (j : Nat) : (l.map f).eraseIdx j = (l.eraseIdx j).map f := by
  rw [List.eraseIdx_eq_take_drop_succ, List.eraseIdx_eq_take_drop_succ, List.map_append, List.map_take, List.map_drop]
theorem cons_erase_perm {α : Type} {l : List α} {j : Nat} (h : j < l.length) : (l[j] :: l.eraseIdx j).Perm l := by
  rw [List.eraseIdx_eq_take_drop_succ]
  have e : l = l.take j ++ l[j] :: l.drop (j + 1) := by
    rw [← List.drop_eq_getElem_cons h, List.take_append_drop]
  exact (List.perm_middle.symm).trans (List.Perm.of_eq e.symm)
def spMixed (K : PySem.W.Frag) : Sp := fun vs H Q _ => ∃ (p l : Addr) (n : Nat) (ss : List Str), vs = [.ref p, .ref l] ∧ Dice H p n ∧ n < 50000 ∧ H l = some (.lst (ss.map V.str)) ∧ l ≠ p ∧ ss.length ≤ 1000 ∧
  ∀ (q' : Addr) (ss' : List Str) (H' : Hp), H q' = none → ss'.Perm ss → Kp p H H' → H' q' = some (.lst (ss'.map V.str)) → Dice H' p (n + ss.length) → Q (.ref q') H'
theorem sc__law_mixed : FnScope ["_law_dice_here", "_law_items", "_law_left", "_law_found", "_law_turn"] ["_law_dice_here", "_law_items"] (defScope (gF "_law_mixed" 72).st) := ⟨rfl, rfl, rfl, by decide +kernel, rfl, by decide +kernel, by decide +kernel⟩
theorem c__law_mixed {P : Program} {w : World} {K : PySem.W.Frag} {mg : Str → Option Value} {base : Heap} (W : W0 K mg base) : Cal P w K mg base 2 (gF "_law_mixed" 72) ["_law_dice_here", "_law_items"] (spMixed K) := by
  refine Cal.of W 56 rfl sc__law_mixed (fun vs H Q E h => ?len) (fun _ _ _ _ _ _ us hl => match us, hl with | [_, _], _ => rfl) (fun cdv A outer s H vs Q E hr h => ?body)
  case len => obtain ⟨_, _, _, _, rfl, _⟩ := h; rfl
  have nd := sc__law_mixed.nd
  refine ⟨_, (pss_cons (ps_par (i := 2) (j := 3) rfl nd rfl rfl (by decide) rfl rfl (pa_cons (pe_callTy (k_list K) rfl (W.f 14 rfl) bb_list (pa_cons (pv 1) pa_nil)) (pa_cons (pe_lst pa_nil) pa_nil)) rfl)
      (pss_cons (ps_for PassesOwn.never rfl (pi_range1 rfl (W.f 11 rfl) (pa_cons (pe_callB (k_len K) rfl (W.f 0 rfl) bb_len (pa_cons (pv 1) pa_nil)) pa_nil)) (pg_name (i := 4) nd rfl (Or.inl rfl)) (pss_one (ps_expr (k_bm K PySem.F.plainAttrs_list PySem.F.slot_list_append PySem.F.type_list_append mt_append (pv 3) (pa_cons (k_bm K PySem.F.plainAttrs_list PySem.F.slot_list_pop PySem.F.type_list_pop mt_popAt (pv 2) (pa_cons (k_cal K (c__law_roll W) (hr.mono (by decide)) rfl (W.g 43 rfl) (pa_cons (pv 0) (pa_cons (pe_callB (k_len K) rfl (W.f 0 rfl) bb_len (pa_cons (pv 2) pa_nil)) pa_nil))) pa_nil)) pa_nil)))))
      (pss_one (ps_ret (pv 3))))), ?_⟩
  obtain ⟨p, l, n, ss, rfl, hd, hn, hl, hne, z2, q⟩ := h
  refine q_par ?_
  refine (el_list (ev_var rfl) (sq_of hl) : EvL (tCB (rListS K) (tCons (tVar 1) tNil)) [some (.ref p), some (.ref l), none, none, none] H _) H (Ex.refl _) _ fun pl H1 f1 e1 h1 => ?_
  refine (el_lst eva_nil (Nat.zero_le _) : EvL (tLst tNil) [some (.ref p), some (.ref l), none, none, none] H1 []) H1 (Ex.refl _) _ fun pf H2 f2 e2 h2 => ⟨_, _, rfl, ?_⟩
  have np : pl ≠ p := hd.ne (xs := []) f1
  have f2' := fresh_back e1 f2
  have nf : pf ≠ p := hd.ne (xs := []) f2'
  have npf : pl ≠ pf := fun z => by
    subst z
    rw [h1] at f2
    exact nomatch f2
  refine q_forR1 (n := (ss.length : Int)) (eva_cons (ev_is (ev_len (ev_var rfl) (sq_of ((e1.trans e2) _ _ hl))) (by rw [List.length_map])) eva_nil) (by omega)
    (fun i σ' H' => ∃ y4, ∃ lf fd : List Str, σ' = [some (.ref p), some (.ref l), some (.ref pl), some (.ref pf), y4] ∧ Kp p H H' ∧ Dice H' p (n + i) ∧ H' pl = some (.lst (lf.map V.str)) ∧ H' pf = some (.lst (fd.map V.str)) ∧ (fd ++ lf).Perm ss ∧ fd.length = i)
    (fun H3 e3 => ⟨none, ss, [], rfl, Kp.ex ((e1.trans e2).trans e3), hd.ex ((e1.trans e2).trans e3), (e2.trans e3) _ _ h1, e3 _ _ h2, List.Perm.refl _, rfl⟩) (fun i σ' H' hi pv => ?_) (fun σ' H' pv => ?_)
  · obtain ⟨y4, lf, fd, rfl, kp, dc, hpl, hpf, pm, fl⟩ := pv
    have hlen := pm.length_eq
    rw [List.length_append] at hlen
    have hlf : 1 ≤ lf.length := by omega
    refine ⟨_, rfl, Or.inl ⟨rfl, _, sq_of hpf⟩, ?_⟩
    refine ⟨_, rfl, Or.inl ⟨rfl, _, sq_of hpl⟩, ?_⟩
    refine ⟨_, rfl, ?_⟩
    refine (ev_len (ev_var rfl) (sq_of hpl) : Ev (tCB (rLenS K) (tCons (tVar 2) tNil)) [some (.ref p), some (.ref l), some (.ref pl), some (.ref pf), some (.int (i : Int))] H' _) H' (Ex.refl _) _ fun H3 e3 => ?_
    rw [List.length_map]
    refine ⟨p, n + i, lf.length, rfl, dc.ex e3, by omega, by omega, by omega, fun r H4 r0 r1 k4 d4 => ?_⟩
    obtain ⟨j, rfl⟩ := Int.eq_ofNat_of_zero_le r0
    have hj : j < lf.length := by omega
    have h4 : H4 pl = some (.lst (lf.map V.str)) := k4.lst np (e3 _ _ hpl)
    have h4f : H4 pf = some (.lst (fd.map V.str)) := k4.lst nf (e3 _ _ hpf)
    refine ⟨pl, _, (j : Int), j, .str lf[j], rfl, rfl, h4, by omega, by omega, ?_, by rw [List.getElem?_map, List.getElem?_eq_getElem hj] <;> rfl, ?_⟩
    · have := seqIndex_of (k := (j : Int)) (n := (lf.map V.str).length) (by omega) (by rw [List.length_map]; omega)
      rw [Int.toNat_natCast] at this
      exact this
    · have h5f : upd H4 pl (.lst ((lf.map V.str).eraseIdx j)) pf = some (.lst (fd.map V.str)) := by rw [upd_ne (Ne.symm npf)]; exact h4f
      refine ⟨pf, _, .str lf[j], rfl, rfl, h5f, sz_lt (by rw [List.length_map]; omega), ?_⟩
      refine ⟨_, lf.eraseIdx j, fd ++ [lf[j]], rfl, (((kp.trans (Kp.ex e3)).trans k4).mut f1).mut f2', ?_, ?_, ?_, ?_, by rw [List.length_append, fl] <;> rfl⟩
      · obtain ⟨a, b, c, z1, z2⟩ := d4
        exact ⟨a, b, c, by rw [upd_ne (Ne.symm nf), upd_ne (Ne.symm np)]; exact z1, z2⟩
      · rw [upd_ne npf, upd_same, map_erase]
      · rw [upd_same, List.map_append] <;> rfl
      · have h7 := cons_erase_perm hj
        rw [List.append_assoc]
        exact (h7.append_left fd).trans pm
  · obtain ⟨y4, lf, fd, rfl, kp, dc, hpl, hpf, pm, fl⟩ := pv
    have hlen := pm.length_eq
    rw [List.length_append] at hlen
    have : lf = [] := List.length_eq_zero_iff.mp (by simp at fl; omega)
    subst this
    rw [List.append_nil] at pm
    refine s_ret (ev_var rfl) fun H3 e3 => q pf fd H3 f2' pm (kp.trans (Kp.ex e3)) (e3 _ _ hpf) ?_
    simp at dc
    exact dc.ex e3
def nthS (i : Nat) : Str := ⟨#[97 + i]⟩
def alphaS : Str := "abcdefghijklmnopqrstuvwxyz"
theorem letters_at {i : Nat} (h : i < 26) : alphaS.cps.toList[i]? = some (97 + i) := by
  have k : ∀ j : Fin 26, alphaS.cps.toList[j.1]? = some (97 + j.1) := by decide +kernel
  exact k ⟨i, h⟩
def spNth : Sp := fun vs H Q _ => ∃ i : Nat, vs = [.int (i : Int)] ∧ i < 26 ∧ ∀ H', Ex H H' → Q (.str (nthS i)) H'
theorem sc__law_nth : FnScope ["_law_index", "_law_letters"] ["_law_index"] (defScope (gF "_law_nth" 73).st) := ⟨rfl, rfl, rfl, by decide +kernel, rfl, by decide +kernel, by decide +kernel⟩
theorem c__law_nth {P : Program} {w : World} {K : PySem.W.Frag} {mg : Str → Option Value} {base : Heap} (W : W0 K mg base) : Cal P w K mg base 1 (gF "_law_nth" 73) ["_law_index"] (spNth) := by
  refine Cal.of W 57 rfl sc__law_nth (fun vs H Q E h => ?len) (fun _ _ _ _ _ _ us hl => match us, hl with | [_], _ => rfl) (fun cdv A outer s H vs Q E hr h => ?body)
  case len => obtain ⟨_, rfl, _⟩ := h; rfl
  have nd := sc__law_nth.nd
  refine ⟨_, (pss_cons (ps_set (i := 1) nd rfl (Or.inl rfl) pe_str)
      (pss_one (ps_ret (pe_ifExp (pt_cmpR op_lt (pv 0) pe_int (nomark _)) (pe_ix ix_str (pv 1) (pv 0) (fun _ _ => rfl)) (pe_op op_add_str (pe_ix ix_str (pv 1) (pe_op op_sub (pe_op op_fdiv (pv 0) pe_int) pe_int) (fun _ _ => rfl)) (pe_ix ix_str (pv 1) (pe_op op_mod (pe_callTy call_int1 rfl (W.f 4 rfl) bb_int (pa_cons (pv 0) pa_nil)) pe_int) (fun _ _ => rfl))))))), ?_⟩
  obtain ⟨i, rfl, hi, q⟩ := h
  refine q_asg (v := .str alphaS) ev_c fun H1 e1 => ?_
  refine s_ret (ev_if (b := true) (et_is (et_test (ev_op (ev_var rfl) ev_c rv_I0)) (decide_eq_true (by omega))) (fun _ => ev_op (ev_var rfl) (ev_var rfl) (rv_ixS (c := 97 + i) (by decide +kernel) (atI_nat (letters_at hi)))) fun z => nomatch z) fun H2 e2 => q H2 (e1.trans e2)
structure NmOk (ss : List Str) (t : Nat) : Prop where
  len : ss.length = t
  nd : ss.Nodup
  ok : ∀ s ∈ ss, nameOk s = true
def allNames : List Str := ["a", "b", "c", "d", "e", "x", "aa", "ab", "zz", "zzzzzzzz"]
theorem allNames_ok : allNames.Nodup ∧ ∀ s ∈ allNames, nameOk s = true := by
  constructor
  · decide +kernel
  · intro s hs
    have h : allNames.all nameOk = true := by decide +kernel
    exact List.all_eq_true.mp h s hs
def spDrawn (K : PySem.W.Frag) : Sp := fun vs H Q _ => ∃ (p : Addr) (n t : Nat), vs = [.ref p, .int (t : Int)] ∧ Dice H p n ∧ n < 40000 ∧ t ≤ 10 ∧
  ∀ (q' : Addr) (ss : List Str) (H' : Hp), H q' = none → NmOk ss t → Kp p H H' → H' q' = some (.lst (ss.map V.str)) → Dice H' p (n + 10) → Q (.ref q') H'
theorem sc__law_names_drawn : FnScope ["_law_dice_here", "_law_times"] ["_law_dice_here", "_law_times"] (defScope (gF "_law_names_drawn" 74).st) := ⟨rfl, rfl, rfl, by decide +kernel, rfl, by decide +kernel, by decide +kernel⟩
theorem c__law_names_drawn {P : Program} {w : World} {K : PySem.W.Frag} {mg : Str → Option Value} {base : Heap} (W : W0 K mg base) : Cal P w K mg base 3 (gF "_law_names_drawn" 74) ["_law_dice_here", "_law_times"] (spDrawn K) := by
  refine Cal.of W 58 rfl sc__law_names_drawn (fun vs H Q E h => ?len) (fun _ _ _ _ _ _ us hl => match us, hl with | [_, _], _ => rfl) (fun cdv A outer s H vs Q E hr h => ?body)
  case len => obtain ⟨_, _, _, rfl, _⟩ := h; rfl
  have nd := sc__law_names_drawn.nd
  refine ⟨_, (pss_one (ps_ret (pe_slice (k_slL K) (k_cal K (c__law_mixed W) (hr.mono (by decide)) rfl (W.g 45 rfl) (pa_cons (pv 0) (pa_cons (pe_lst (pa_cons pe_str (pa_cons pe_str (pa_cons pe_str (pa_cons pe_str (pa_cons pe_str (pa_cons pe_str (pa_cons pe_str (pa_cons pe_str (pa_cons pe_str (pa_cons pe_str pa_nil))))))))))) pa_nil))) po_none (po_some (pv 1))))), ?_⟩
  obtain ⟨p, n, t, rfl, hd, hn, ht, q⟩ := h
  refine ⟨_, rfl, ?_⟩
  refine (el_lst (vs := allNames.map V.str) (eva_cons ev_c (eva_cons ev_c (eva_cons ev_c (eva_cons ev_c (eva_cons ev_c (eva_cons ev_c (eva_cons ev_c (eva_cons ev_c (eva_cons ev_c (eva_cons ev_c eva_nil)))))))))) (by show 10 ≤ 100000; decide) : EvL _ [some (.ref p), some (.int (t : Int))] H _) H (Ex.refl _) _ fun l H1 f1 e1 h1 => ?_
  refine ⟨p, l, n, allNames, rfl, hd.ex e1, by omega, h1, hd.ne (xs := []) f1, by show 10 ≤ 1000; decide, fun q1 ss H2 f2 pm k2 h2 d2 => ?_⟩
  refine ⟨_, rfl, (t : Int), rfl, q1, _, rfl, sq_of h2, fun q2 f3 => ?_⟩
  have hne : q2 ≠ p := by
    rintro rfl
    obtain ⟨a, b, c, z, _⟩ := d2
    rw [f3] at z
    exact nomatch z
  have hq1 : q1 ≠ p := (hd.ex e1).ne (xs := []) f2
  have cl : cutV (ss.map V.str) none (some (t : Int)) = (ss.take t).map V.str := (cutL_to (ss.map V.str) t).trans List.map_take.symm
  rw [cl]
  have hl := pm.length_eq
  refine q q2 (ss.take t) _ ?_ ⟨?_, ?_, ?_⟩ (((Kp.ex e1).trans k2).trans (Kp.ex (Ex.new f3))) upd_same (d2.ex (Ex.new f3))
  · cases hz : H q2 with
    | none => rfl
    | some o =>
      have := ((Kp.ex e1).trans k2) q2 o hne hz
      rw [f3] at this
      exact nomatch this
  · rw [List.length_take, hl]
    show min t 10 = t
    omega
  · exact ((pm.nodup_iff.mpr allNames_ok.1).sublist (List.take_sublist _ _))
  · exact fun s hs => allNames_ok.2 s (pm.mem_iff.mp (List.mem_of_mem_take hs))
def spKd (K : PySem.W.Frag) : Sp := fun vs H Q _ => ∃ (p : Addr) (n t : Nat), vs = [.ref p, .int (t : Int)] ∧ Dice H p n ∧ n < 40000 ∧ t ≤ 10 ∧
  ∀ (v : V) (ks : List Bool) (H' : Hp), ks.length = t → Kp p H H' → Rp K H' v (tS (ks.map kindS)) → Dice H' p (n + t) → Q v H'
theorem Kp.none {p q : Addr} {H H' : Hp} (k : Kp p H H') (hq : q ≠ p) (h : H' q = none) : H q = none := by
  cases hz : H q with
  | none => rfl
  | some o =>
    have := k q o hq hz
    rw [h] at this
    exact nomatch this
theorem sc__law_kinds_drawn : FnScope ["_law_dice_here", "_law_times", "_law_turn"] ["_law_dice_here", "_law_times"] (defScope (gF "_law_kinds_drawn" 85).st) := ⟨rfl, rfl, rfl, by decide +kernel, rfl, by decide +kernel, by decide +kernel⟩
theorem c__law_kinds_drawn {P : Program} {w : World} {K : PySem.W.Frag} {mg : Str → Option Value} {base : Heap} (W : W0 K mg base) : Cal P w K mg base 3 (gF "_law_kinds_drawn" 85) ["_law_dice_here", "_law_times"] (spKd K) := by
  refine Cal.of W 69 rfl sc__law_kinds_drawn (fun vs H Q E h => ?len) (fun _ _ _ _ _ _ us hl => match us, hl with | [_, _], _ => rfl) (fun cdv A outer s H vs Q E hr h => ?body)
  case len => obtain ⟨_, _, _, rfl, _⟩ := h; rfl
  have nd := sc__law_kinds_drawn.nd
  refine ⟨_, (pss_one (ps_ret (pe_callTy (k_tuple K) rfl (W.f 2 rfl) bb_tuple (pa_cons (pe_lc (own := [("_law_turn", 2)]) (g := (gName 2)) (tt := tYes) rfl nd (pi_range1 rfl (W.f 11 rfl) (pa_cons (pv 1) pa_nil)) (blkOk_by (N := ["_law_dice_here", "_law_times", "_law_turn"]) (sc := defScope (gF "_law_kinds_drawn" 85).st) (by decide +kernel)) (fun _ _ _ _ _ => (pg_name (i := 2) nd rfl (by first | exact Or.inl rfl | exact Or.inr rfl))) (fun _ _ _ _ _ => pts_nil) (fun _ _ _ _ _ => (k_cal K (c__law_pick W) (hr.mono (by decide)) rfl (W.g 44 rfl) (pa_cons (pv 0) (pa_cons (pe_lst (pa_cons pe_str (pa_cons pe_str pa_nil))) pa_nil))))) pa_nil)))), ?_⟩
  obtain ⟨p, n, t, rfl, hd, hn, ht, q⟩ := h
  refine ⟨_, rfl, (t : Int), rfl, by omega, by omega, fun Dl hD => ?_⟩
  have np : Dl ≠ p := hd.ne (xs := []) hD
  refine lc_range (lo := 0) (n := (t : Int).toNat) (fun i H' => ∃ ks : List Bool, ks.length = i ∧ Kp p H H' ∧ Dice H' p (n + i) ∧ H' Dl = some (.lst ((ks.map kindS).map V.str))) ⟨[], rfl, Kp.ex (Ex.new hD), hd.ex (Ex.new hD), upd_same⟩ (fun i H' hi pv => ?_) (fun H' pv => ?_)
  · obtain ⟨ks, kl, kp, dc, hl⟩ := pv
    refine ⟨rfl, ?_⟩
    unfold tYes
    simp only [if_true]
    refine ⟨_, rfl, ?_⟩
    refine (el_lst (vs := [.str "upper", .str "lower"]) (eva_cons ev_c (eva_cons ev_c eva_nil)) (by show 2 ≤ 100000; decide) : EvL _ _ H' _) H' (Ex.refl _) _ fun l H1 f1 e1 h1 => ?_
    refine ⟨p, l, n + i, ["upper", "lower"], rfl, dc.ex e1, by omega, h1, dc.ne (xs := []) f1, by decide, by decide, fun x H2 hx k2 d2 => ?_⟩
    have hk : ∃ k, x = kindS k := by
      simp only [List.mem_cons, List.not_mem_nil, or_false] at hx
      rcases hx with rfl | rfl
      · exact ⟨true, rfl⟩
      · exact ⟨false, rfl⟩
    obtain ⟨k, rfl⟩ := hk
    have h2 := k2.lst np (e1 _ _ hl)
    refine ⟨_, h2, sz_lt (by rw [List.length_map, List.length_map]; omega), ks ++ [k], by rw [List.length_append, kl] <;> rfl, ((kp.trans (Kp.ex e1)).trans k2).mut hD, ?_, ?_⟩
    · obtain ⟨a, b, c, z1, z2⟩ := d2
      exact ⟨a, b, c, by rw [upd_ne (Ne.symm np)]; exact z1, z2⟩
    · rw [upd_same, List.map_append, List.map_append] <;> rfl
  · obtain ⟨ks, kl, kp, dc, hl⟩ := pv
    rw [Int.toNat_natCast] at kl dc
    refine ⟨Dl, _, rfl, Or.inl ⟨sq_of hl, fun l hl' => q _ ks _ kl (kp.trans (Kp.ex (Ex.new hl'))) (.tup (SqT.of upd_same) ?_) (dc.ex (Ex.new hl'))⟩⟩
    exact rps_strs _
end PR
end
section
set_option Elab.async false
set_option linter.all false
set_option maxRecDepth 100000
set_option maxHeartbeats 4000000
/-! The law's rows. -/
namespace PR
open PySem PySem.Spec PyProof.Rows L2 Evl
def insA (row : List Str) (x y : Str) : List Str := row.take (row.idxOf y + 1) ++ x :: row.drop (row.idxOf y + 1)
def rIns : V → List V → Hp → VK → Prop := fun o as G R => ∃ (m : Addr) (ys : List V) (j : Int) (z : V), o = .ref m ∧ as = [.int j, z] ∧ G m = some (.lst ys) ∧ ys.length < sizeLine ∧ 0 ≤ j ∧ j < 2 ^ 63 ∧ R .non (upd G m (.lst (ys.take j.toNat ++ [z] ++ ys.drop j.toNat)))
theorem q_insS {K : PySem.W.Frag} {σ : L2.St} {H : Hp} {D : Ends} {tz : TS} {ta ti tv : TE} {m : Addr} {row : List Str} {j : Nat} {x : Str} (hl : H m = some (.lst (row.map V.str))) (ha : Ev ta σ H (.ref m)) (hi : Ev ti σ H (.int (j : Int))) (hv : Ev tv σ H (.str x)) (hz : row.length ≤ 1000) (hj : j ≤ 1000)
    (k : ∀ H1, Ex H H1 → tz D σ (upd H1 m (.lst ((row.take j ++ x :: row.drop j).map V.str)))) : tSeq (tDrop (tBM K "list" rIns ta (tCons ti (tCons tv tNil)))) tz D σ H := ha H (Ex.refl _) _ fun H1 e1 =>
  ⟨Or.inl ⟨rfl, _, sq_of (e1 _ _ hl)⟩, hi H1 e1 _ fun H2 e2 => hv H2 (e1.trans e2) _ fun H3 e3 => by
    have e13 := (e1.trans e2).trans e3
    refine ⟨m, _, (j : Int), .str x, rfl, rfl, e13 _ _ hl, sz_lt (by rw [List.length_map]; omega), by omega, by omega, ?_⟩
    have z := k H3 e13
    rw [Int.toNat_natCast, List.append_assoc]
    rw [List.map_append, List.map_cons, List.map_take, List.map_drop] at z
    exact z⟩
theorem atI_V_last {u : List Str} (h : u ≠ []) : atI (u.map V.str) (-1) = some (.str (u.getLastD Str.empty)) := by
  obtain ⟨r, z, rfl⟩ := List.eq_nil_or_concat u |>.resolve_left h
  rw [List.concat_eq_append, List.map_append]
  simp only [List.map_cons, List.map_nil]
  rw [atI_last]
  simp
theorem ev_sIx {K : PySem.W.Frag} {σ : L2.St} {H : Hp} {ta tb : TE} {p : Addr} {xs : List V} {i : Int} {v : V} (h : Ev ta σ H (.ref p)) (hs : SqL K H p xs) (hb : Ev tb σ H (.int i)) (hv : atI xs i = some v) : Ev (tOp (rIxL K) ta tb) σ H v := ev_op h hb (rv_ixL hs hv)
theorem el_initS {K : PySem.W.Frag} {σ : L2.St} {H : Hp} {ta : TE} {p : Addr} {row : List Str} (h : Ev ta σ H (.ref p)) (hs : H p = some (.lst (row.map V.str))) : EvL (tCB (rListS K) (tCons (tSl (rSlL K) ta tNoPart (tPart (tUn (fun x H Q => ∃ i, x = .int i ∧ Q (.int (-i)) H) (tC (.int 1))))) tNil)) σ H (row.dropLast.map V.str) := fun H1 e Q q => by
  have hc : cutV (row.map V.str) none (some (-1)) = row.dropLast.map V.str := (cutL_init (row.map V.str)).trans List.map_dropLast.symm
  refine (el_sl h eo_none (eo_some (ev_un ev_c ru_neg)) (sq_of hs)) H1 e _ fun l H2 f2 e2 h2 => ?_
  rw [hc] at h2
  exact ⟨l, _, rfl, .inl (sq_of h2), fun m hm => q m _ (fresh_back e2 hm) (e2.trans (Ex.new hm)) upd_same⟩
def lledF (k : Bool) (u l : List Str) : List Str × List Str := if k then (u, insA l.dropLast (l.getLastD Str.empty) (u.getLastD Str.empty)) else (insA u.dropLast (u.getLastD Str.empty) (l.getLastD Str.empty), l)
def lledOk (k : Bool) (u l : List Str) : Bool := decide (u.length ≤ 1000) && decide (l.length ≤ 1000) && !u.isEmpty && !l.isEmpty && (if k then l.dropLast.contains (u.getLastD Str.empty) else u.dropLast.contains (l.getLastD Str.empty))
def spLLed (K : PySem.W.Frag) : Sp := fun vs H Q _ => ∃ (a b : Addr) (u l : List Str) (k : Bool), vs = [.ref a, .ref b, .str (kindS k)] ∧ H a = some (.lst (u.map V.str)) ∧ H b = some (.lst (l.map V.str)) ∧ lledOk k u l = true ∧
  ∀ T p q H', Ex H H' → H T = none → H p = none → H q = none → H' T = some (.tup [.ref p, .ref q]) → H' p = some (.lst ((lledF k u l).1.map V.str)) → H' q = some (.lst ((lledF k u l).2.map V.str)) → Q (.ref T) H'
theorem sc__law_led : FnScope ["_law_upper", "_law_lower", "_law_kind", "_law_above", "_law_below", "_law_left"] ["_law_upper", "_law_lower", "_law_kind"] (defScope (gF "_law_led" 77).st) := ⟨rfl, rfl, rfl, by decide +kernel, rfl, by decide +kernel, by decide +kernel⟩
theorem c__law_led {P : Program} {w : World} {K : PySem.W.Frag} {mg : Str → Option Value} {base : Heap} (W : W0 K mg base) : Cal P w K mg base 1 (gF "_law_led" 77) ["_law_upper", "_law_lower", "_law_kind"] (spLLed K) := by
  refine Cal.of W 61 rfl sc__law_led (fun vs H Q E h => ?len) (fun _ _ _ _ _ _ us hl => match us, hl with | [_, _, _], _ => rfl) (fun cdv A outer s H vs Q E hr h => ?body)
  case len => obtain ⟨_, _, _, _, _, rfl, _⟩ := h; rfl
  have nd := sc__law_led.nd
  refine ⟨_, (pss_cons (ps_par (i := 3) (j := 4) rfl nd rfl rfl (by decide) rfl rfl (pa_cons (pe_ix (k_ixL K) (pv 0) (pe_un un_neg pe_int) (fun _ _ => rfl)) (pa_cons (pe_ix (k_ixL K) (pv 1) (pe_un un_neg pe_int) (fun _ _ => rfl)) pa_nil)) rfl)
      (pss_cons (ps_if (pt_cmpR op_eq (pv 2) pe_str (nomark _)) (pss_cons (ps_set (i := 5) nd rfl (Or.inl rfl) (pe_callTy (k_list K) rfl (W.f 14 rfl) bb_list (pa_cons (pe_slice (k_slL K) (pv 1) po_none (po_some (pe_un un_neg pe_int))) pa_nil)))
      (pss_cons (ps_expr (k_bm K PySem.F.plainAttrs_list PySem.F.slot_list_insert PySem.F.type_list_insert mt_insert (pv 5) (pa_cons (pe_op op_add (k_bm K PySem.F.plainAttrs_list PySem.F.slot_list_index PySem.F.type_list_index (k_index K) (pv 5) (pa_cons (pv 3) pa_nil)) pe_int) (pa_cons (pv 4) pa_nil))))
      (pss_one (ps_ret (pe_tup (pa_cons (pe_callTy (k_list K) rfl (W.f 14 rfl) bb_list (pa_cons (pv 0) pa_nil)) (pa_cons (pv 5) pa_nil))))))) pss_nil)
      (pss_cons (ps_set (i := 5) nd rfl (Or.inl rfl) (pe_callTy (k_list K) rfl (W.f 14 rfl) bb_list (pa_cons (pe_slice (k_slL K) (pv 0) po_none (po_some (pe_un un_neg pe_int))) pa_nil)))
      (pss_cons (ps_expr (k_bm K PySem.F.plainAttrs_list PySem.F.slot_list_insert PySem.F.type_list_insert mt_insert (pv 5) (pa_cons (pe_op op_add (k_bm K PySem.F.plainAttrs_list PySem.F.slot_list_index PySem.F.type_list_index (k_index K) (pv 5) (pa_cons (pv 4) pa_nil)) pe_int) (pa_cons (pv 3) pa_nil))))
      (pss_one (ps_ret (pe_tup (pa_cons (pv 5) (pa_cons (pe_callTy (k_list K) rfl (W.f 14 rfl) bb_list (pa_cons (pv 1) pa_nil)) pa_nil))))))))), ?_⟩
  obtain ⟨a, b, u, l, k, rfl, ha, hb, ok, q⟩ := h
  unfold lledOk at ok
  simp only [Bool.and_eq_true, decide_eq_true_eq] at ok
  obtain ⟨⟨⟨⟨zu, zl⟩, nu⟩, nl⟩, hm⟩ := ok
  have nu : u ≠ [] := by simpa using nu
  have nl : l ≠ [] := by simpa using nl
  have k1 : ("upper" : Str) ≠ ("lower" : Str) := by decide +kernel
  refine q_par ?_
  refine (ev_sIx (ev_var rfl) (sq_of ha) (ev_un ev_c ru_neg) (atI_V_last nu) : Ev (tOp (rIxL K) (tVar 0) (tUn (fun x H Q => ∃ i, x = .int i ∧ Q (.int (-i)) H) (tC (.int 1)))) [some (.ref a), some (.ref b), some (.str (kindS k)), none, none, none] H _) H (Ex.refl _) _ fun H1 e1 => ?_
  refine (ev_sIx (ev_var rfl) (sq_of (e1 _ _ hb)) (ev_un ev_c ru_neg) (atI_V_last nl) : Ev (tOp (rIxL K) (tVar 1) (tUn (fun x H Q => ∃ i, x = .int i ∧ Q (.int (-i)) H) (tC (.int 1)))) [some (.ref a), some (.ref b), some (.str (kindS k)), none, none, none] H1 _) H1 (Ex.refl _) _ fun H2 e2 => ⟨_, _, rfl, ?_⟩
  have e12 := e1.trans e2
  cases k with
  | true =>
    have hm : u.getLastD Str.empty ∈ l.dropLast := by simpa using hm
    refine q_when (b := true) (et_is (et_test (ev_op (ev_var rfl) ev_c (rv_eq rfl))) (by simp [kindS])) (fun _ H3 e3 => ?_) (fun z => nomatch z)
    refine q_asgL (el_initS (ev_var rfl) ((e12.trans e3) _ _ hb)) fun pl H4 f4 e4 h4 => ?_
    have hix := List.idxOf_lt_length_iff.mpr hm
    have hdl : l.dropLast.length ≤ 1000 := by rw [List.length_dropLast]; omega
    refine q_insS (j := l.dropLast.idxOf (u.getLastD Str.empty) + 1) h4 (ev_var rfl) (ev_op (ev_indexS (ev_var rfl) (sq_of h4) (ev_var rfl) hm) ev_c rv_I0) (ev_var rfl) hdl (by omega) fun H5 e5 => ?_
    have fl : H pl = none := fresh_back (e12.trans e3) f4
    have ex : Ex H (upd H5 pl (.lst ((insA l.dropLast (l.getLastD Str.empty) (u.getLastD Str.empty)).map V.str))) := Ex.mut (((e12.trans e3).trans e4).trans e5) fl
    show tTup _ _ (upd H5 pl (.lst ((insA l.dropLast (l.getLastD Str.empty) (u.getLastD Str.empty)).map V.str))) _
    have hp6 : upd H5 pl (.lst ((insA l.dropLast (l.getLastD Str.empty) (u.getLastD Str.empty)).map V.str)) pl = some (.lst ((insA l.dropLast (l.getLastD Str.empty) (u.getLastD Str.empty)).map V.str)) := upd_same
    generalize upd H5 pl (.lst ((insA l.dropLast (l.getLastD Str.empty) (u.getLastD Str.empty)).map V.str)) = H6 at ex hp6 ⊢
    refine (el_list (ev_var rfl) (sq_of (ex _ _ ha)) : EvL (tCB (rListS K) (tCons (tVar 0) tNil)) [some (.ref a), some (.ref b), some (.str (kindS true)), some (.str (u.getLastD Str.empty)), some (.str (l.getLastD Str.empty)), some (.ref pl)] H6 _) H6 (Ex.refl _) _ fun pu H7 f7 e7 h7 => ⟨_, rfl, ?_⟩
    exact ⟨sz_of (by show 2 ≤ 100000; decide), fun T hT => q T pu pl _ ((ex.trans e7).trans (Ex.new hT)) (fresh_back (ex.trans e7) hT) (fresh_back ex f7) fl upd_same ((Ex.new hT) _ _ h7) ((Ex.new hT) _ _ (e7 _ _ hp6))⟩
  | false =>
    have hm : l.getLastD Str.empty ∈ u.dropLast := by simpa using hm
    refine q_when (b := false) (et_is (et_test (ev_op (ev_var rfl) ev_c (rv_eq rfl))) (by simp [kindS, Ne.symm k1])) (fun z => nomatch z) (fun _ H3 e3 => ?_)
    refine q_asgL (el_initS (ev_var rfl) ((e12.trans e3) _ _ ha)) fun pl H4 f4 e4 h4 => ?_
    have hix := List.idxOf_lt_length_iff.mpr hm
    have hdl : u.dropLast.length ≤ 1000 := by rw [List.length_dropLast]; omega
    refine q_insS (j := u.dropLast.idxOf (l.getLastD Str.empty) + 1) h4 (ev_var rfl) (ev_op (ev_indexS (ev_var rfl) (sq_of h4) (ev_var rfl) hm) ev_c rv_I0) (ev_var rfl) hdl (by omega) fun H5 e5 => ?_
    have fl : H pl = none := fresh_back (e12.trans e3) f4
    have ex : Ex H (upd H5 pl (.lst ((insA u.dropLast (u.getLastD Str.empty) (l.getLastD Str.empty)).map V.str))) := Ex.mut (((e12.trans e3).trans e4).trans e5) fl
    show tTup _ _ (upd H5 pl (.lst ((insA u.dropLast (u.getLastD Str.empty) (l.getLastD Str.empty)).map V.str))) _
    have hp6 : upd H5 pl (.lst ((insA u.dropLast (u.getLastD Str.empty) (l.getLastD Str.empty)).map V.str)) pl = some (.lst ((insA u.dropLast (u.getLastD Str.empty) (l.getLastD Str.empty)).map V.str)) := upd_same
    generalize upd H5 pl (.lst ((insA u.dropLast (u.getLastD Str.empty) (l.getLastD Str.empty)).map V.str)) = H6 at ex hp6 ⊢
    refine ⟨_, rfl, ?_⟩
    refine (el_list (ev_var rfl) (sq_of (ex _ _ hb)) : EvL (tCB (rListS K) (tCons (tVar 1) tNil)) [some (.ref a), some (.ref b), some (.str (kindS false)), some (.str (u.getLastD Str.empty)), some (.str (l.getLastD Str.empty)), some (.ref pl)] H6 _) H6 (Ex.refl _) _ fun pu H7 f7 e7 h7 => ?_
    exact ⟨sz_of (by show 2 ≤ 100000; decide), fun T hT => q T pl pu _ ((ex.trans e7).trans (Ex.new hT)) (fresh_back (ex.trans e7) hT) fl (fresh_back ex f7) upd_same ((Ex.new hT) _ _ (e7 _ _ hp6)) ((Ex.new hT) _ _ h7)⟩
def lfarF : List Bool → List Str → List Str → Option (List Str × List Str)
  | [], u, l => some (u, l)
  | k :: r, u, l => if lledOk k u l then lfarF r (lledF k u l).1 (lledF k u l).2 else none
def spLFar (K : PySem.W.Frag) : Sp := fun vs H Q _ => ∃ (a b : Addr) (v : V) (u l : List Str) (ks : List Bool) (r : List Str × List Str), vs = [.ref a, .ref b, v] ∧ H a = some (.lst (u.map V.str)) ∧ H b = some (.lst (l.map V.str)) ∧ Rp K H v (tS (ks.map kindS)) ∧ ks.length ≤ 1000 ∧ lfarF ks u l = some r ∧
  ∀ T p q H', Ex H H' → H p = none → H q = none → H' T = some (.tup [.ref p, .ref q]) → H' p = some (.lst (r.1.map V.str)) → H' q = some (.lst (r.2.map V.str)) → Q (.ref T) H'
theorem sc__law_led_far : FnScope ["_law_upper", "_law_lower", "_law_course", "_law_rows", "_law_kind"] ["_law_upper", "_law_lower", "_law_course"] (defScope (gF "_law_led_far" 78).st) := ⟨rfl, rfl, rfl, by decide +kernel, rfl, by decide +kernel, by decide +kernel⟩
theorem c__law_led_far {P : Program} {w : World} {K : PySem.W.Frag} {mg : Str → Option Value} {base : Heap} (W : W0 K mg base) : Cal P w K mg base 2 (gF "_law_led_far" 78) ["_law_upper", "_law_lower", "_law_course"] (spLFar K) := by
  refine Cal.of W 62 rfl sc__law_led_far (fun vs H Q E h => ?len) (fun _ _ _ _ _ _ us hl => match us, hl with | [_, _, _], _ => rfl) (fun cdv A outer s H vs Q E hr h => ?body)
  case len => obtain ⟨_, _, _, _, _, _, _, rfl, _⟩ := h; rfl
  have nd := sc__law_led_far.nd
  refine ⟨_, (pss_cons (ps_set (i := 3) nd rfl (Or.inl rfl) (pe_tup (pa_cons (pe_callTy (k_list K) rfl (W.f 14 rfl) bb_list (pa_cons (pv 0) pa_nil)) (pa_cons (pe_callTy (k_list K) rfl (W.f 14 rfl) bb_list (pa_cons (pv 1) pa_nil)) pa_nil))))
      (pss_cons (ps_for PassesOwn.never rfl (k_pi_tup K (pv 2)) (pg_name (i := 4) nd rfl (Or.inl rfl)) (pss_one (ps_set (i := 3) nd rfl (Or.inl rfl) (k_cal K (c__law_led W) (hr.mono (by decide)) rfl (W.g 50 rfl) (pa_cons (pe_ix (k_ixT K) (pv 3) pe_int (fun _ _ => rfl)) (pa_cons (pe_ix (k_ixT K) (pv 3) pe_int (fun _ _ => rfl)) (pa_cons (pv 4) pa_nil)))))))
      (pss_one (ps_ret (pv 3))))), ?_⟩
  obtain ⟨a, b, v, u, l, ks, r, rfl, ha, hb, hv, hz, hr', q⟩ := h
  refine (el_list (ev_var rfl) (sq_of ha) : EvL (tCB (rListS K) (tCons (tVar 0) tNil)) [some (.ref a), some (.ref b), some v, none, none] H _) H (Ex.refl _) _ fun p0 H1 f1 e1 h1 => ?_
  refine (el_list (ev_var rfl) (sq_of (e1 _ _ hb)) : EvL (tCB (rListS K) (tCons (tVar 1) tNil)) [some (.ref a), some (.ref b), some v, none, none] H1 _) H1 (Ex.refl _) _ fun q0 H2 f2 e2 h2 => ⟨sz_of (by show 2 ≤ 100000; decide), fun T0 hT => ?_⟩
  have e3 : Ex H2 (upd H2 T0 (.tup [.ref p0, .ref q0])) := Ex.new hT
  have hT3 : upd H2 T0 (.tup [.ref p0, .ref q0]) T0 = some (.tup [.ref p0, .ref q0]) := upd_same
  show tSeq _ _ _ _ (upd H2 T0 (.tup [.ref p0, .ref q0]))
  generalize upd H2 T0 (.tup [.ref p0, .ref q0]) = H3 at e3 hT3 ⊢
  have e03 := (e1.trans e2).trans e3
  refine q_forD (K := K) (edI_tup (ed_var rfl (hv.ex e03))) (fun H5 i σ' H' => ∃ y4 T p q u' l', σ' = [some (.ref a), some (.ref b), some v, some (.ref T), y4] ∧ Ex H H' ∧ TEx H5 H' ∧ H p = none ∧ H q = none ∧ H' T = some (.tup [.ref p, .ref q]) ∧ H' p = some (.lst (u'.map V.str)) ∧ H' q = some (.lst (l'.map V.str)) ∧ lfarF (ks.drop i) u' l' = some r)
    (fun H5 e5 => ⟨none, T0, p0, q0, u, l, rfl, e03.trans e5, TEx.refl _, f1, fresh_back e1 f2, e5 _ _ hT3, e5 _ _ (e3 _ _ (e2 _ _ h1)), e5 _ _ (e3 _ _ h2), hr'⟩) (fun H5 i σ' H' _ _ pv => by obtain ⟨_, _, _, _, _, _, _, _, t, _⟩ := pv; exact t) (fun H5 i d x σ' H' H'' e5 hd pv e6 rx => ?_) (fun H5 σ' H' e5 pv => ?_)
  · obtain ⟨y4, T, p, q', u', l', rfl, eH, tH, fp, fq, hT, hp, hq, hf⟩ := pv
    have hi : i < ks.length := by simpa using (List.getElem?_eq_some_iff.mp hd).1
    rw [List.getElem?_map, List.getElem?_map, List.getElem?_eq_getElem hi] at hd
    cases hd
    cases rx
    rw [List.drop_eq_getElem_cons hi] at hf
    unfold lfarF at hf
    by_cases ok : lledOk ks[i] u' l' = true
    · rw [if_pos ok] at hf
      have gx : ∀ {H8 : Hp} {k : Int} {v : V}, Ex H'' H8 → atI [V.ref p, V.ref q'] k = some v → Ev (tOp (rIxT K) (tVar 3) (tC (.int k))) [some (.ref a), some (.ref b), some v, some (.ref T), some (.str (kindS ks[i]))] H8 v := fun e8 hx => ev_op (ev_var rfl) ev_c (rv_ixT (SqT.of ((e6.trans e8) _ _ hT)) hx)
      have g0 : atI [V.ref p, V.ref q'] 0 = some (.ref p) := by rfl
      have g1 : atI [V.ref p, V.ref q'] 1 = some (.ref q') := by rfl
      refine gx (Ex.refl _) g0 H'' (Ex.refl _) _ fun H7 e7 => gx e7 g1 H7 (Ex.refl _) _ fun H8 e8 => ⟨_, rfl, p, q', u', l', ks[i], rfl, (e6.trans (e7.trans e8)) _ _ hp, (e6.trans (e7.trans e8)) _ _ hq, ok, fun T2 p2 q2 H9 e9 fT fp2 fq2 hT2 hp2 hq2 => ?_⟩
      have e69 := e6.trans ((e7.trans e8).trans e9)
      exact ⟨_, T2, p2, q2, _, _, rfl, eH.trans e69, tH.trans (exT e69), fresh_back (eH.trans (e6.trans (e7.trans e8))) fp2, fresh_back (eH.trans (e6.trans (e7.trans e8))) fq2, hT2, hp2, hq2, hf⟩
    · rw [if_neg ok] at hf
      exact nomatch hf
  · obtain ⟨y4, T, p, q', u', l', rfl, eH, tH, fp, fq, hT, hp, hq, hf⟩ := pv
    rw [List.length_map, List.length_map, List.drop_length] at hf
    cases hf
    exact s_ret (ev_var rfl) fun H6 e6 => q T p q' H6 (eH.trans e6) fp fq (e6 _ _ hT) (e6 _ _ hp) (e6 _ _ hq)
def spLPl (K : PySem.W.Frag) : Sp := fun vs H Q _ => ∃ (a b : Addr) (u l : List Str), vs = [.ref a, .ref b] ∧ H a = some (.lst (u.map V.str)) ∧ H b = some (.lst (l.map V.str)) ∧ u.length ≤ 1000 ∧ (∀ x ∈ u, x ∈ l) ∧ ∀ v H', Ex H H' → XT H' v (plc u l) → Q v H'
theorem sc__law_places : FnScope ["_law_upper", "_law_lower", "_law_name"] ["_law_upper", "_law_lower"] (defScope (gF "_law_places" 86).st) := ⟨rfl, rfl, rfl, by decide +kernel, rfl, by decide +kernel, by decide +kernel⟩
theorem c__law_places {P : Program} {w : World} {K : PySem.W.Frag} {mg : Str → Option Value} {base : Heap} (W : W0 K mg base) : Cal P w K mg base 1 (gF "_law_places" 86) ["_law_upper", "_law_lower"] (spLPl K) := by
  refine Cal.of W 70 rfl sc__law_places (fun vs H Q E h => ?len) (fun _ _ _ _ _ _ us hl => match us, hl with | [_, _], _ => rfl) (fun cdv A outer s H vs Q E hr h => ?body)
  case len => obtain ⟨_, _, _, _, rfl, _⟩ := h; rfl
  have nd := sc__law_places.nd
  refine ⟨_, (pss_one (ps_ret (pe_callTy (k_tupX K) rfl (W.f 2 rfl) bb_tuple (pa_cons (pe_lc (own := [("_law_name", 2)]) (g := (gName 2)) (tt := tYes) rfl nd (k_pi_list K (pv 0)) (blkOk_by (N := ["_law_upper", "_law_lower", "_law_name"]) (sc := defScope (gF "_law_places" 86).st) (by decide +kernel)) (fun _ _ _ _ _ => (pg_name (i := 2) nd rfl (by first | exact Or.inl rfl | exact Or.inr rfl))) (fun _ _ _ _ _ => pts_nil) (fun _ _ _ _ _ => (k_bm K PySem.F.plainAttrs_list PySem.F.slot_list_index PySem.F.type_list_index (k_index K) (pv 1) (pa_cons (pv 2) pa_nil)))) pa_nil)))), ?_⟩
  obtain ⟨a, b, u, l, rfl, ha, hb, hz, hm, q⟩ := h
  refine (edX_tup (K := K) (ns := plc u l) (edL_is (edL_map (K := K) (ws := [2]) (j := 2) (fun d => match d with | .str x => .int (pos l x) | _ => .none) (edI_list (ev_var rfl) (sq_of ha) (rps_strs u)) (fun _ _ e => e) (by rw [List.length_map]; omega) (fun _ => rfl) fun d y H7 e7 hd r => ?_) ?_)) H (Ex.refl _) _ fun v H2 e2 r => q v H2 e2 r
  · obtain ⟨x, hx, rfl⟩ := List.mem_map.mp hd
    cases r
    exact ed_int (ev_indexS (ev_var rfl) (sq_of (e7 _ _ hb)) (ev_var rfl) (hm x hx))
  · show _ = (plc u l).map PyData.int
    unfold plc
    rw [List.map_map, List.map_map]
    rfl
end PR
end
section
set_option Elab.async false
set_option linter.all false
set_option maxRecDepth 100000
set_option maxHeartbeats 4000000
/-! The law's forms and sizes. -/
namespace PR
open PySem PySem.Spec PyProof.Rows L2 Evl
def lformI (u l : List Str) (x y : Str) : Int := (if decide (pos u x - pos u y < 0) && decide (pos l x - pos l y > 0) then 1 else 0) - (if decide (pos u x - pos u y > 0) && decide (pos l x - pos l y < 0) then 1 else 0)
abbrev kP (x y : Str) : List Key := [Sum.inr x, Sum.inr y]
theorem ev_dgetT {σ : L2.St} {H : Hp} {ta tb : TE} {p : Addr} {kvs : List (List Key × V)} {k : List Key} {v : V} (h1 : Ev ta σ H (.ref p)) (hp : H p = some (.dT kvs)) (h2 : EvU tb σ H (k.map kV)) (hv : valV kvs k = some v) : Ev (tDGet ta tb) σ H v := fun H1 e Q q =>
  h1 H1 e _ fun H2 e2 => h2 H2 (e.trans e2) _ fun b H3 f3 e3 h3 => ⟨p, v, rfl, .inr ⟨kvs, k, b, .inl (((e.trans e2).trans e3) _ _ hp), rfl, h3, hv.symm⟩, q H3 (e2.trans e3)⟩
theorem eu_pairS {σ : L2.St} {H : Hp} {ta tb : TE} {x y : Str} (h1 : Ev ta σ H (.str x)) (h2 : Ev tb σ H (.str y)) : EvU (tTup (tCons ta (tCons tb tNil))) σ H ((kP x y).map kV) := eu_tup (eva_cons h1 (eva_cons h2 eva_nil)) (by show 2 ≤ 100000; decide)
theorem s_dputT {σ : L2.St} {H : Hp} {D : Ends} {td ty tv : TE} {d : Addr} {kvs : List (List Key × V)} {k : List Key} {v : V} (hd : H d = some (.dT kvs)) (hv : Ev tv σ H v) (ho : Ev td σ H (.ref d)) (hk : EvU ty σ H (k.map kV)) (hz : kvs.length < 100000)
    (kk : ∀ H1, Ex H H1 → D.nx σ (upd H1 d (.dT (putK kvs k v)))) : sDPut td ty tv D σ H := hv H (Ex.refl _) _ fun H1 e1 => ho H1 e1 _ fun H2 e2 => hk H2 (e1.trans e2) _ fun b H3 f3 e3 h3 =>
  ⟨d, _, rfl, .inr ⟨kvs, k, b, ((e1.trans e2).trans e3) _ _ hd, rfl, h3, sz_lt hz, rfl⟩, kk H3 ((e1.trans e2).trans e3)⟩
theorem q_asgNT {σ : L2.St} {H : Hp} {D : Ends} {tz : TS} {i : Nat} (k : ∀ p, H p = none → tz D (σ.set i (some (.ref p))) (upd H p (.dT []))) : tSeq (tAsg tDNewT (gName i)) tz D σ H := fun p hp => k p hp
def FormsOk (u l : List Str) (kvs : List (List Key × V)) : Prop := ∀ x ∈ u, ∀ y ∈ u, valV kvs (kP x y) = some (.int (lformI u l x y))
def spForms (K : PySem.W.Frag) : Sp := fun vs H Q _ => ∃ (a b : Addr) (u l : List Str), vs = [.ref a, .ref b] ∧ H a = some (.lst (u.map V.str)) ∧ H b = some (.lst (l.map V.str)) ∧ u.length ≤ 100 ∧ (∀ x ∈ u, x ∈ l) ∧ ∀ p kvs H', H p = none → Ex H H' → H' p = some (.dT kvs) → FormsOk u l kvs → Q (.ref p) H'
theorem sc__law_forms : FnScope ["_law_upper", "_law_lower", "_law_found", "_law_one", "_law_other", "_law_above", "_law_below"] ["_law_upper", "_law_lower"] (defScope (gF "_law_forms" 79).st) := ⟨rfl, rfl, rfl, by decide +kernel, rfl, by decide +kernel, by decide +kernel⟩
theorem c__law_forms {P : Program} {w : World} {K : PySem.W.Frag} {mg : Str → Option Value} {base : Heap} (W : W0 K mg base) : Cal P w K mg base 1 (gF "_law_forms" 79) ["_law_upper", "_law_lower"] (spForms K) := by
  refine Cal.of W 63 rfl sc__law_forms (fun vs H Q E h => ?len) (fun _ _ _ _ _ _ us hl => match us, hl with | [_, _], _ => rfl) (fun cdv A outer s H vs Q E hr h => ?body)
  case len => obtain ⟨_, _, _, _, rfl, _⟩ := h; rfl
  have nd := sc__law_forms.nd
  refine ⟨_, (pss_cons (ps_set (i := 2) nd rfl (Or.inl rfl) pe_dnewT)
      (pss_cons (ps_for PassesOwn.never rfl (k_pi_list K (pv 0)) (pg_name (i := 3) nd rfl (Or.inl rfl)) (pss_one (ps_for PassesOwn.never rfl (k_pi_list K (pv 0)) (pg_name (i := 4) nd rfl (Or.inl rfl)) (pss_cons (ps_set (i := 5) nd rfl (Or.inl rfl) (pe_op op_sub (k_bm K PySem.F.plainAttrs_list PySem.F.slot_list_index PySem.F.type_list_index (k_index K) (pv 0) (pa_cons (pv 3) pa_nil)) (k_bm K PySem.F.plainAttrs_list PySem.F.slot_list_index PySem.F.type_list_index (k_index K) (pv 0) (pa_cons (pv 4) pa_nil))))
      (pss_cons (ps_set (i := 6) nd rfl (Or.inl rfl) (pe_op op_sub (k_bm K PySem.F.plainAttrs_list PySem.F.slot_list_index PySem.F.type_list_index (k_index K) (pv 1) (pa_cons (pv 3) pa_nil)) (k_bm K PySem.F.plainAttrs_list PySem.F.slot_list_index PySem.F.type_list_index (k_index K) (pv 1) (pa_cons (pv 4) pa_nil))))
      (pss_one (ps_dput (hu_of hr) (pv 2) (pe_tup (pa_cons (pv 3) (pa_cons (pv 4) pa_nil))) (pe_op op_sub (pe_callTy call_int1 rfl (W.f 4 rfl) bb_int (pa_cons (pe_and (pe_cmpR op_lt (pv 5) pe_int (nomark _)) (pe_one (pe_cmpR op_gt (pv 6) pe_int (nomark _)))) pa_nil)) (pe_callTy call_int1 rfl (W.f 4 rfl) bb_int (pa_cons (pe_and (pe_cmpR op_gt (pv 5) pe_int (nomark _)) (pe_one (pe_cmpR op_lt (pv 6) pe_int (nomark _)))) pa_nil))) rfl)))))))
      (pss_one (ps_ret (pv 2))))), ?_⟩
  obtain ⟨a, b, u, l, rfl, ha, hb, hz, hm, q⟩ := h
  refine q_asgNT fun d hd => ?_
  have e0 : Ex H (upd H d (.dT [])) := Ex.new hd
  have hd0 : upd H d (.dT []) d = some (.dT []) := upd_same
  generalize upd H d (.dT []) = H0 at e0 hd0 ⊢
  have step : ∀ {kvs : List (List Key × V)} {x y x' y' : Str}, (valV kvs (kP x' y') = some (.int (lformI u l x' y')) ∨ (x' = x ∧ y' = y)) → valV (putK kvs (kP x y) (.int (lformI u l x y))) (kP x' y') = some (.int (lformI u l x' y')) := fun {kvs x y x' y'} h => by
    rw [valV_put]
    by_cases e : kP x' y' = kP x y
    · rw [if_pos e]
      have e1 : x' = x := by injection e with z _; exact Sum.inr.inj z
      have e2 : y' = y := by injection e with _ z; injection z with z _; exact Sum.inr.inj z
      rw [e1, e2]
    · rw [if_neg e]
      rcases h with h | ⟨h1, h2⟩
      · exact h
      · rw [h1, h2] at e
        exact absurd rfl e
  refine q_forLn (K := K) (ev_var rfl) (sq_of (e0 _ _ ha)) (fun i σ' H' => ∃ y3 y4 y5 y6 kvs, σ' = [some (.ref a), some (.ref b), some (.ref d), y3, y4, y5, y6] ∧ Ex H H' ∧ H' d = some (.dT kvs) ∧ kvs.length ≤ i * 100 ∧ ∀ x ∈ u.take i, ∀ y ∈ u, valV kvs (kP x y) = some (.int (lformI u l x y)))
    (fun H1 e1 => ⟨none, none, none, none, [], rfl, e0.trans e1, e1 _ _ hd0, Nat.zero_le _, fun x hx => (nomatch hx)⟩) (fun i σ' H' _ pv => by obtain ⟨_, _, _, _, _, _, e, _⟩ := pv; exact sq_of (e _ _ ha)) (fun i x σ' H' hx pv => ?_) (fun σ' H' pv => ?_)
  · obtain ⟨y3, y4, y5, y6, kvs, rfl, eH, hk, kl, kf⟩ := pv
    have hi : i < u.length := by
      have := (List.getElem?_eq_some_iff.mp hx).1
      rwa [List.length_map] at this
    rw [List.getElem?_map, List.getElem?_eq_getElem hi] at hx
    cases hx
    have mi : u[i] ∈ u := List.getElem_mem hi
    refine s_forLn (K := K) (ev_var rfl) (sq_of (eH _ _ ha)) (fun m σ' H' => ∃ y4 y5 y6 kvs, σ' = [some (.ref a), some (.ref b), some (.ref d), some (.str u[i]), y4, y5, y6] ∧ Ex H H' ∧ H' d = some (.dT kvs) ∧ kvs.length ≤ i * 100 + m ∧ (∀ x ∈ u.take i, ∀ y ∈ u, valV kvs (kP x y) = some (.int (lformI u l x y))) ∧ ∀ y ∈ u.take m, valV kvs (kP u[i] y) = some (.int (lformI u l u[i] y)))
      (fun H1 e1 => ⟨y4, y5, y6, kvs, rfl, eH.trans e1, e1 _ _ hk, by omega, kf, fun y hy => (nomatch hy)⟩) (fun m σ' H' _ pv => by obtain ⟨_, _, _, _, _, e, _⟩ := pv; exact sq_of (e _ _ ha)) (fun m x σ' H2 hx pv => ?_) (fun σ' H2 pv => ?_)
    · obtain ⟨y4, y5, y6, kvs, rfl, eH2, hk2, kl2, kf1, kf2⟩ := pv
      have hm2 : m < u.length := by
        have := (List.getElem?_eq_some_iff.mp hx).1
        rwa [List.length_map] at this
      rw [List.getElem?_map, List.getElem?_eq_getElem hm2] at hx
      cases hx
      have mm : u[m] ∈ u := List.getElem_mem hm2
      refine q_asg (v := .int (pos u u[i] - pos u u[m])) (ev_op (ev_indexS (ev_var rfl) (sq_of (eH2 _ _ ha)) (ev_var rfl) mi) (ev_indexS (ev_var rfl) (sq_of (eH2 _ _ ha)) (ev_var rfl) mm) rv_I0) fun H3 e3 => ?_
      refine q_asg (v := .int (pos l u[i] - pos l u[m])) (ev_op (ev_indexS (ev_var rfl) (sq_of ((eH2.trans e3) _ _ hb)) (ev_var rfl) (hm _ mi)) (ev_indexS (ev_var rfl) (sq_of ((eH2.trans e3) _ _ hb)) (ev_var rfl) (hm _ mm)) rv_I0) fun H4 e4 => ?_
      have hk4 := (e3.trans e4) _ _ hk2
      refine s_dputT (k := kP u[i] u[m]) (v := .int (lformI u l u[i] u[m])) hk4 (ev_op (ev_intB (ev_andV (ev_op (ev_var rfl) ev_c rv_I0) fun _ => ev_op (ev_var rfl) ev_c rv_I0)) (ev_intB (ev_andV (ev_op (ev_var rfl) ev_c rv_I0) fun _ => ev_op (ev_var rfl) ev_c rv_I0)) rv_I0) (ev_var rfl) (eu_pairS (ev_var rfl) (ev_var rfl)) (by have := Nat.mul_le_mul_right 100 (Nat.le_of_lt hi); omega) fun H5 e5 => ?_
      refine ⟨_, _, _, putK kvs (kP u[i] u[m]) (.int (lformI u l u[i] u[m])), rfl, Ex.mut (((eH2.trans e3).trans e4).trans e5) hd, upd_same, ?_, fun x hx y hy => step (.inl (kf1 x hx y hy)), fun y hy => ?_⟩
      · have := length_putK kvs (kP u[i] u[m]) (V.int (lformI u l u[i] u[m]))
        omega
      · rw [List.take_add_one, List.getElem?_eq_getElem hm2] at hy
        rcases List.mem_append.mp hy with hy | hy
        · exact step (.inl (kf2 y hy))
        · refine step (.inr ⟨rfl, ?_⟩)
          simpa using hy
    · obtain ⟨y4, y5, y6, kvs, rfl, eH2, hk2, kl2, kf1, kf2⟩ := pv
      rw [List.length_map, List.take_of_length_le (Nat.le_refl _)] at kf2
      rw [List.length_map] at kl2
      refine ⟨_, _, _, _, kvs, rfl, eH2, hk2, by omega, fun x hx y hy => ?_⟩
      rw [List.take_add_one, List.getElem?_eq_getElem hi] at hx
      rcases List.mem_append.mp hx with hx | hx
      · exact kf1 x hx y hy
      · have : x = u[i] := by simpa using hx
        rw [this]
        exact kf2 y hy
  · obtain ⟨y3, y4, y5, y6, kvs, rfl, eH, hk, kl, kf⟩ := pv
    rw [List.length_map, List.take_of_length_le (Nat.le_refl _)] at kf
    exact s_ret (ev_var rfl) fun H6 e6 => q d kvs H6 hd (eH.trans e6) (e6 _ _ hk) kf
/-- the size of a set of names: how many there are and how many of its pairs cross -/
def lsizeF (g : Str → Str → Int) (ss : List Str) : Nat → Int
  | 0 => ss.length
  | i + 1 => lsizeF g ss i + (((ss.drop (i + 1)).filter fun y => decide (g (ss.getD i Str.empty) y ≠ 0)).length : Int)
def spSize (K : PySem.W.Frag) : Sp := fun vs H Q _ => ∃ (v : V) (d : Addr) (u l ss : List Str) (kvs : List (List Key × V)), vs = [v, .ref d] ∧ Rp K H v (tS ss) ∧ H d = some (.dT kvs) ∧ FormsOk u l kvs ∧ (∀ x ∈ ss, x ∈ u) ∧ ss.length ≤ 1000 ∧ ∀ H', Ex H H' → Q (.int (lsizeF (lformI u l) ss ss.length)) H'
theorem sc__law_size : FnScope ["_law_names", "_law_forms_here", "_law_found", "_law_at", "_law_one", "_law_other"] ["_law_names", "_law_forms_here"] (defScope (gF "_law_size" 82).st) := ⟨rfl, rfl, rfl, by decide +kernel, rfl, by decide +kernel, by decide +kernel⟩
theorem c__law_size {P : Program} {w : World} {K : PySem.W.Frag} {mg : Str → Option Value} {base : Heap} (W : W0 K mg base) : Cal P w K mg base 1 (gF "_law_size" 82) ["_law_names", "_law_forms_here"] (spSize K) := by
  refine Cal.of W 66 rfl sc__law_size (fun vs H Q E h => ?len) (fun _ _ _ _ _ _ us hl => match us, hl with | [_, _], _ => rfl) (fun cdv A outer s H vs Q E hr h => ?body)
  case len => obtain ⟨_, _, _, _, _, _, rfl, _⟩ := h; rfl
  have nd := sc__law_size.nd
  refine ⟨_, (pss_cons (ps_set (i := 2) nd rfl (Or.inl rfl) (pe_callB (k_len K) rfl (W.f 0 rfl) bb_len (pa_cons (pv 0) pa_nil)))
      (pss_cons (ps_for PassesOwn.never rfl (pi_enumT rfl (W.f 9 rfl) (pa_cons (pv 0) pa_nil)) (pg_tup rfl (pgs_cons (pg_name (i := 3) nd rfl (Or.inl rfl)) (pgs_cons (pg_name (i := 4) nd rfl (Or.inr rfl)) pgs_nil))) (pss_one (ps_set (i := 2) nd rfl (Or.inl rfl) (pe_op op_add (pv 2) (pe_callB (k_len K) rfl (W.f 0 rfl) bb_len (pa_cons (pe_lc (own := [("_law_other", 5)]) (g := (gName 5)) rfl nd (k_pi_tup K (pe_slice (k_slT K) (pv 0) (po_some (pe_op op_add (pv 3) pe_int)) po_none)) (blkOk_by (N := ["_law_names", "_law_forms_here", "_law_found", "_law_at", "_law_one", "_law_other"]) (sc := defScope (gF "_law_size" 82).st) (by decide +kernel)) (fun _ _ _ _ _ => (pg_name (i := 5) nd rfl (by first | exact Or.inl rfl | exact Or.inr rfl))) (fun _ _ _ _ _ => (pts_one (pt_cmpR op_ne (pe_dget (hu_of hr) (pv 1) (pe_tup (pa_cons (pv 4) (pa_cons (pv 5) pa_nil))) (fun _ _ => rfl)) pe_int (nomark _)))) (fun _ _ _ _ _ => (pv 5))) pa_nil))))))
      (pss_one (ps_ret (pv 2))))), ?_⟩
  obtain ⟨v, d, u, l, ss, kvs, rfl, hv, hd, hf, hm, hz, q⟩ := h
  refine q_asg (v := .int (lsizeF (lformI u l) ss 0)) (ev_is (ev_lenT (ed_var rfl hv)) (by rw [List.length_map] <;> rfl)) fun H1 e1 => ?_
  refine q_forD (K := K) (edI_enT (eds_cons (ed_var rfl (hv.ex e1)) eds_nil)) (fun H5 i σ' H' => ∃ y3 y4, σ' = [some v, some (.ref d), some (.int (lsizeF (lformI u l) ss i)), y3, y4, none] ∧ Ex H H' ∧ TEx H5 H')
    (fun H5 e5 => ⟨none, none, rfl, e1.trans e5, TEx.refl _⟩) (fun H5 i σ' H' _ _ pv => by obtain ⟨_, _, _, _, t⟩ := pv; exact t) (fun H5 i dd x σ' H' H'' e5 hdd pv e6 rx => ?_) (fun H5 σ' H' e5 pv => ?_)
  · obtain ⟨y3, y4, rfl, eH, tH⟩ := pv
    have hi : i < ss.length := by
      have := (List.getElem?_eq_some_iff.mp hdd).1
      rwa [enD_len, List.length_map] at this
    have hgi : (ss.map PyData.str)[i]? = some (.str (ss.getD i Str.empty)) := by
      rw [List.getElem?_map, List.getElem?_eq_getElem hi, List.getD_eq_getElem?_getD, List.getElem?_eq_getElem hi] <;> rfl
    have mi : ss.getD i Str.empty ∈ ss := by
      rw [List.getD_eq_getElem?_getD, List.getElem?_eq_getElem hi]
      exact List.getElem_mem hi
    rw [enD_at hgi] at hdd
    cases hdd
    refine g_pair rx fun v1 v2 r1 r2 => ?_
    cases r1
    cases r2
    have e06 := eH.trans e6
    have c1 : cutL (ss.map PyData.str) (some ((i : Int) + 1)) none = (ss.drop (i + 1)).map PyData.str := (cutL_from _ (i + 1)).trans List.map_drop.symm
    refine s_asg (v := .int (lsizeF (lformI u l) ss (i + 1))) (ev_is (ev_op (ev_var rfl) (ev_lenL (edL_flt (K := K) (ws := [5]) (j := 5) (fun d => match d with | .str y => decide (lformI u l (ss.getD i Str.empty) y ≠ 0) | _ => false) id (edI_tup (ed_is (ed_sl (ed_var rfl (hv.ex e06)) (eo_some (ev_op (ev_var rfl) ev_c rv_I0)) eo_none) (congrArg PyData.tuple c1))) (fun _ _ => exT) (by rw [List.length_map, List.length_drop]; omega) (fun _ => rfl) fun d' y H7 e7 hm7 r7 => ?_)) rv_I0) ?_) fun H4 e4 => ⟨_, _, rfl, e06.trans e4, tH.trans (exT (e6.trans e4))⟩
    · obtain ⟨z, hz7, rfl⟩ := List.mem_map.mp hm7
      cases r7
      have hzs : z ∈ ss := List.mem_of_mem_drop hz7
      refine ⟨et_is (et_test (ev_op (ev_dgetT (k := kP (ss.getD i Str.empty) z) (ev_var rfl) ((e06.trans e7) _ _ hd) (eu_pairS (ev_var rfl) (ev_var rfl)) (hf _ (hm _ mi) _ (hm _ hzs))) ev_c (rv_ne rfl))) ?_, fun _ => ed_str (ev_var rfl)⟩
      show (!decide (V.int _ = V.int 0)) = decide (lformI u l (ss.getD i Str.empty) z ≠ 0)
      rw [Bool.eq_iff_iff]
      simp
    · show V.int (_ + _) = V.int (_ + _)
      rw [List.length_map, List.filter_map, List.length_map]
      rfl
  · obtain ⟨y3, y4, rfl, eH, tH⟩ := pv
    rw [enD_len, List.length_map]
    exact s_ret (ev_var rfl) fun H6 e6 => q H6 (eH.trans e6)
end PR
end
section
set_option Elab.async false
set_option linter.all false
set_option maxRecDepth 100000
set_option maxHeartbeats 4000000
/-! The law's parity. -/
namespace PR
open PySem PySem.Spec PyProof.Rows L2 Evl
def subsF : List Str → List (List Str) → List (List Str)
  | [], s => s
  | x :: r, s => subsF r (s ++ s.map fun t => t ++ [x])
def loddF (u l : List Str) (sets : List (List Str)) : Nat := (sets.filter fun ss => decide (lsizeF (lformI u l) ss ss.length % 2 = 1)).length
def lparF (u l : List Str) : Int :=
  (if decide ((2 : Int) * (loddF u l (subsF (sortS u) [[]]) : Int) < ((subsF (sortS u) [[]]).length : Int)) then 1 else 0) - (if decide ((2 : Int) * (loddF u l (subsF (sortS u) [[]]) : Int) > ((subsF (sortS u) [[]]).length : Int)) then 1 else 0)
theorem mem_subs {u : List Str} : ∀ (r : List Str) (s : List (List Str)), (∀ x ∈ r, x ∈ u) → (∀ t ∈ s, ∀ x ∈ t, x ∈ u) → ∀ t ∈ subsF r s, ∀ x ∈ t, x ∈ u
  | [], _, _, h => h
  | x :: r, s, hr, h => mem_subs r _ (fun y hy => hr y (List.mem_cons_of_mem _ hy)) fun t ht => by
    rcases List.mem_append.mp ht with ht | ht
    · exact h t ht
    · obtain ⟨t', ht', rfl⟩ := List.mem_map.mp ht
      intro y hy
      rcases List.mem_append.mp hy with hy | hy
      · exact h t' ht' y hy
      · rw [List.mem_singleton.mp hy]
        exact hr x List.mem_cons_self
theorem len_subs : ∀ (r : List Str) (s : List (List Str)), (subsF r s).length = s.length * 2 ^ r.length
  | [], s => by show s.length = s.length * 1; omega
  | x :: r, s => by
    show (subsF r _).length = _
    rw [len_subs r, List.length_append, List.length_map, List.length_cons, Nat.pow_succ]
    rw [← Nat.two_mul, Nat.mul_comm 2, Nat.mul_assoc, Nat.mul_comm 2]
theorem ed_catT {K : PySem.W.Frag} {σ : L2.St} {H : Hp} {ta tb : TE} {ds es : List PyData} (h1 : Ed K ta σ H (.tuple ds)) (h2 : Ed K tb σ H (.tuple es)) (hz : ds.length + es.length ≤ 100000) : Ed K (tOp (rCatA K) ta tb) σ H (.tuple (ds ++ es)) := fun H1 e Q q =>
  h1 H1 e _ fun v H2 e2 r1 => h2 H2 (e.trans e2) _ fun w H3 e3 r2 => by
    obtain ⟨a, xs, rfl, hs, rs⟩ := rp_tup r1
    obtain ⟨b, ys, rfl, hs2, rs2⟩ := rp_tup r2
    have l1 := rs.len
    have l2 := rs2.len
    refine ⟨a, b, xs, ys, rfl, rfl, ex_t e3 hs, hs2, sz_of (by omega), fun hx => ?_, fun hx hy => ?_, fun hx hy p hp => ?_⟩
    · subst hx
      cases rs
      exact q _ H3 (e2.trans e3) r2
    · subst hy
      cases rs2
      rw [List.append_nil] at q
      exact q _ H3 (e2.trans e3) (r1.ex e3)
    · exact q _ _ ((e2.trans e3).trans (Ex.new hp)) (.tup (SqT.of upd_same) (((rs.ex e3).ex (Ex.new hp)).app (rs2.ex (Ex.new hp))))
theorem edL_catLs {K : PySem.W.Frag} {σ : L2.St} {H : Hp} {ta tb : TE} {p : Addr} {vs : List V} {ds es : List PyData} (h1 : Ev ta σ H (.ref p)) (hp : H p = some (.lst vs)) (rs : Rps K H vs ds) (h2 : EdL K tb σ H es) (hz : ds.length + es.length ≤ 100000) : EdL K (tOp rCat ta tb) σ H (ds ++ es) := fun H1 e Q q =>
  h1 H1 e _ fun H2 e2 => h2 H2 (e.trans e2) _ fun p2 ws H3 f3 e3 h3 r3 => by
    have l1 := rs.len
    have l2 := r3.len
    have ee := (e.trans e2).trans e3
    exact ⟨p, p2, vs, ws, rfl, rfl, ee _ _ hp, h3, sz_of (by omega), fun m hm => q m _ _ (fresh_back (e2.trans e3) hm) ((e2.trans e3).trans (Ex.new hm)) upd_same (((rs.ex ee).ex (Ex.new hm)).app (r3.ex (Ex.new hm)))⟩
def strOf : PyData → Str
  | .str x => x
  | _ => Str.empty
theorem strOf_map (c : List Str) : (c.map PyData.str).map strOf = c := by
  rw [List.map_map]
  exact List.map_id _
theorem ev_sizeC {K : PySem.W.Frag} {σ : L2.St} {H : Hp} {ta tb : TE} {d : Addr} {u l ss : List Str} {kvs : List (List Key × V)} (h1 : Ed K ta σ H (tS ss)) (h2 : Ev tb σ H (.ref d)) (hd : H d = some (.dT kvs)) (hf : FormsOk u l kvs) (hm : ∀ x ∈ ss, x ∈ u) (hz : ss.length ≤ 1000) : Ev (tCall (spSize K) [] E0 (tCons ta (tCons tb tNil))) σ H (.int (lsizeF (lformI u l) ss ss.length)) := fun H1 e Q q =>
  h1 H1 e _ fun v H2 e2 r => h2 H2 (e.trans e2) _ fun H3 e3 => ⟨v, d, u, l, ss, kvs, rfl, r.ex e3, ((e.trans e2).trans e3) _ _ hd, hf, hm, hz, fun H4 e4 => q H4 ((e2.trans e3).trans e4)⟩
def spLPar (K : PySem.W.Frag) : Sp := fun vs H Q _ => ∃ (a b : Addr) (u l : List Str), vs = [.ref a, .ref b] ∧ H a = some (.lst (u.map V.str)) ∧ H b = some (.lst (l.map V.str)) ∧ u.length ≤ 6 ∧ (∀ x ∈ u, x ∈ l) ∧ ∀ H', Ex H H' → Q (.int (lparF u l)) H'
theorem sc__law_parity : FnScope ["_law_upper", "_law_lower", "_law_forms_here", "_law_sets", "_law_name", "_law_odd", "_law_some"] ["_law_upper", "_law_lower"] (defScope (gF "_law_parity" 83).st) := ⟨rfl, rfl, rfl, by decide +kernel, rfl, by decide +kernel, by decide +kernel⟩
theorem c__law_parity {P : Program} {w : World} {K : PySem.W.Frag} {mg : Str → Option Value} {base : Heap} (W : W0 K mg base) : Cal P w K mg base 2 (gF "_law_parity" 83) ["_law_upper", "_law_lower"] (spLPar K) := by
  refine Cal.of W 67 rfl sc__law_parity (fun vs H Q E h => ?len) (fun _ _ _ _ _ _ us hl => match us, hl with | [_, _], _ => rfl) (fun cdv A outer s H vs Q E hr h => ?body)
  case len => obtain ⟨_, _, _, _, rfl, _⟩ := h; rfl
  have nd := sc__law_parity.nd
  refine ⟨_, (pss_cons (ps_asg (pe_tup (pa_cons (k_cal K (c__law_forms W) (hr.mono (by decide)) rfl (W.g 52 rfl) (pa_cons (pv 0) (pa_cons (pv 1) pa_nil))) (pa_cons (pe_lst (pa_cons (pe_tup pa_nil) pa_nil)) pa_nil))) (pg_tup rfl (pgs_cons (pg_name (i := 2) nd rfl (Or.inr rfl)) (pgs_cons (pg_name (i := 3) nd rfl (Or.inl rfl)) pgs_nil))))
      (pss_cons (ps_for PassesOwn.never rfl (k_pi_list K (pe_callB (k_sort K rfl hr.units) rfl (W.f 8 rfl) bb_sorted (pa_cons (pv 0) pa_nil))) (pg_name (i := 4) nd rfl (Or.inr rfl)) (pss_one (ps_set (i := 3) nd rfl (Or.inl rfl) (pe_op op_cat (pv 3) (pe_lc (own := [("_law_some", 6)]) (g := (gName 6)) (tt := tYes) rfl nd (k_pi_list K (pv 3)) (blkOk_by (N := ["_law_upper", "_law_lower", "_law_forms_here", "_law_sets", "_law_name", "_law_odd", "_law_some"]) (sc := defScope (gF "_law_parity" 83).st) (by decide +kernel)) (fun _ _ _ _ _ => (pg_name (i := 6) nd rfl (by first | exact Or.inl rfl | exact Or.inr rfl))) (fun _ _ _ _ _ => pts_nil) (fun _ _ _ _ _ => (pe_op (k_catT K) (pv 6) (pe_tup (pa_cons (pv 4) pa_nil)))))))))
      (pss_cons (ps_set (i := 5) nd rfl (Or.inl rfl) (pe_callB (k_len K) rfl (W.f 0 rfl) bb_len (pa_cons (pe_lc (own := [("_law_some", 6)]) (g := (gName 6)) rfl nd (k_pi_list K (pv 3)) (blkOk_by (N := ["_law_upper", "_law_lower", "_law_forms_here", "_law_sets", "_law_name", "_law_odd", "_law_some"]) (sc := defScope (gF "_law_parity" 83).st) (by decide +kernel)) (fun _ _ _ _ _ => (pg_name (i := 6) nd rfl (by first | exact Or.inl rfl | exact Or.inr rfl))) (fun _ _ _ _ _ => (pts_one (pt_cmpR op_eq (pe_op op_mod (k_cal K (c__law_size W) (hr.mono (by decide)) rfl (W.g 55 rfl) (pa_cons (pv 6) (pa_cons (pv 2) pa_nil))) pe_int) pe_int (nomark _)))) (fun _ _ _ _ _ => pe_int)) pa_nil)))
      (pss_one (ps_ret (pe_op op_sub (pe_callTy call_int1 rfl (W.f 4 rfl) bb_int (pa_cons (pe_cmpR op_lt (pe_op op_mul pe_int (pv 5)) (pe_callB (k_len K) rfl (W.f 0 rfl) bb_len (pa_cons (pv 3) pa_nil)) (nomark _)) pa_nil)) (pe_callTy call_int1 rfl (W.f 4 rfl) bb_int (pa_cons (pe_cmpR op_gt (pe_op op_mul pe_int (pv 5)) (pe_callB (k_len K) rfl (W.f 0 rfl) bb_len (pa_cons (pv 3) pa_nil)) (nomark _)) pa_nil)))))))), ?_⟩
  obtain ⟨a, b, u, l, rfl, ha, hb, hz, hm, q⟩ := h
  refine ⟨_, rfl, _, rfl, a, b, u, l, rfl, ha, hb, by omega, hm, fun d kvs H1 f1 e1 h1 fk => ?_⟩
  refine (edL_lst (K := K) (ds := [tS []]) (eds_cons (ed_tup eds_nil (Nat.zero_le _)) eds_nil) (by show 1 ≤ 100000; decide) : EdL K _ [some (.ref a), some (.ref b), none, none, none, none, none] H1 _) H1 (Ex.refl _) _ fun p0 vs0 H2 f2 e2 h2 r2 => ⟨sz_of (by show 2 ≤ 100000; decide), fun T0 hT => ?_⟩
  refine g_two (SqT.of upd_same) ?_
  have e3 : Ex H2 (upd H2 T0 (.tup [.ref d, .ref p0])) := Ex.new hT
  generalize upd H2 T0 (.tup [.ref d, .ref p0]) = H3 at e3 ⊢
  have e13 := e2.trans e3
  have e03 := e1.trans e13
  have pm := List.mergeSort_perm u (fun a b => decide (a.cps.toList ≤ b.cps.toList))
  have sl : (sortS u).length = u.length := pm.length_eq
  have sm : ∀ x ∈ sortS u, x ∈ u := fun x hx => pm.mem_iff.mp hx
  refine q_forD (K := K) (edI_new (edL_is (edL_sortLs (ev_var rfl) (sq_of (e03 _ _ ha)) (rps_strs u) (sortOk_strs (by omega))) (sortD_strs u))) (fun H5 i σ' H' => ∃ y4 p vs sets, σ' = [some (.ref a), some (.ref b), some (.ref d), some (.ref p), y4, none, none] ∧ Ex H5 H' ∧ H' p = some (.lst vs) ∧ Rps K H' vs (sets.map tS) ∧ sets.length = 2 ^ i ∧ (∀ t ∈ sets, t.length ≤ i ∧ ∀ x ∈ t, x ∈ u) ∧ subsF ((sortS u).drop i) sets = subsF (sortS u) [[]])
    (fun H5 e5 => ⟨none, p0, vs0, [[]], rfl, Ex.refl _, (e3.trans e5) _ _ h2, r2.ex (e3.trans e5), rfl, fun t ht => by rw [List.mem_singleton.mp ht]; exact ⟨Nat.zero_le _, fun x hx => (nomatch hx)⟩, rfl⟩) (fun H5 i σ' H' _ _ pv => by obtain ⟨_, _, _, _, _, t, _⟩ := pv; exact t) (fun H5 i dd x σ' H' H'' e5 hdd pv e6 rx => ?_) (fun H5 σ' H' e5 pv => ?_)
  · obtain ⟨y4, p, vs, sets, rfl, tH, hp, rs, sz, tl, hsub⟩ := pv
    have hi : i < (sortS u).length := by simpa using (List.getElem?_eq_some_iff.mp hdd).1
    rw [List.getElem?_map, List.getElem?_eq_getElem hi] at hdd
    cases hdd
    cases rx
    have p64 : 2 ^ i ≤ 64 := Nat.pow_le_pow_right (by decide) (show i ≤ 6 by omega)
    have hp6 := e6 _ _ hp
    have rs6 := rs.ex e6
    rw [List.drop_eq_getElem_cons hi] at hsub
    have hsub : subsF ((sortS u).drop (i + 1)) (sets ++ sets.map fun t => t ++ [(sortS u)[i]]) = subsF (sortS u) [[]] := hsub
    have hmm : (sets.map tS).map (fun d => match d with | .tuple ds => .tuple (ds ++ [.str (sortS u)[i]]) | _ => .none) = (sets.map fun t => t ++ [(sortS u)[i]]).map tS := by
      rw [List.map_map, List.map_map]
      refine List.map_congr_left fun t _ => ?_
      show PyData.tuple (t.map PyData.str ++ [PyData.str (sortS u)[i]]) = tS (t ++ [(sortS u)[i]])
      unfold tS
      rw [List.map_append] <;> rfl
    refine s_asgM (K := K) (ds := (sets ++ sets.map fun t => t ++ [(sortS u)[i]]).map tS) (edL_is (edL_catLs (ev_var rfl) hp6 rs6 (edL_is (edL_map (K := K) (ws := [6]) (j := 6) (fun d => match d with | .tuple ds => .tuple (ds ++ [.str (sortS u)[i]]) | _ => .none) (edI_list (ev_var rfl) (sq_of hp6) rs6) (fun _ _ e => e) (by rw [List.length_map, sz]; omega) (fun _ => rfl) fun d' y H7 e7 hm7 r7 => ?_) hmm) ?_) List.map_append.symm) fun p2 vs2 H7 f7 e7 h7 r7 => ⟨_, p2, vs2, _, rfl, tH.trans (e6.trans e7), h7, r7, ?_, ?_, hsub⟩
    · obtain ⟨t, ht, rfl⟩ := List.mem_map.mp hm7
      refine ed_catT (ed_var rfl r7) (ed_tup (eds_cons (ed_str (ev_var rfl)) eds_nil) (by show 1 ≤ 100000; decide)) ?_
      have := (tl t ht).1
      rw [List.length_map]
      show t.length + 1 ≤ 100000
      omega
    · rw [List.length_map, List.length_map, List.length_map, sz]
      omega
    · rw [List.length_append, List.length_map, sz, Nat.pow_succ]
      omega
    · intro t ht
      rcases List.mem_append.mp ht with ht | ht
      · exact ⟨by have := (tl t ht).1; omega, (tl t ht).2⟩
      · obtain ⟨t', ht', rfl⟩ := List.mem_map.mp ht
        refine ⟨by have := (tl t' ht').1; rw [List.length_append, List.length_singleton]; omega, fun x hx => ?_⟩
        rcases List.mem_append.mp hx with hx | hx
        · exact (tl t' ht').2 x hx
        · rw [List.mem_singleton.mp hx]
          exact sm _ (List.getElem_mem hi)
  · obtain ⟨y4, p, vs, sets, rfl, tH, hp, rs, sz, tl, hsub⟩ := pv
    rw [List.length_map, List.drop_length] at hsub
    have hsub : sets = subsF (sortS u) [[]] := hsub
    have p64 : 2 ^ (sortS u).length ≤ 64 := Nat.pow_le_pow_right (by decide) (show (sortS u).length ≤ 6 by omega)
    rw [List.length_map] at sz tl
    have hd' : H' d = some (.dT kvs) := (e13.trans (e5.trans tH)) _ _ h1
    have lv : vs.length = sets.length := by have := rs.len; rwa [List.length_map] at this
    refine q_asg (v := .int (loddF u l sets : Nat)) (ev_is (ev_lenL (edL_flt (K := K) (ws := [6]) (j := 6) (fun d => match d with | .tuple ds => decide (lsizeF (lformI u l) (ds.map strOf) (ds.map strOf).length % 2 = 1) | _ => false) (fun _ => .int 1) (edI_list (ev_var rfl) (sq_of hp) rs) (fun _ _ e => e) (by rw [List.length_map, sz]; omega) (fun _ => rfl) fun d' y H7 e7 hm7 r7 => ?_)) ?_) fun H6 e6 => ?_
    · obtain ⟨t, ht, rfl⟩ := List.mem_map.mp hm7
      refine ⟨et_is (et_test (ev_op (ev_op (ev_sizeC (ed_var rfl r7) (ev_var rfl) (e7 _ _ hd') fk (tl t ht).2 (by have := (tl t ht).1; omega)) ev_c (rv_I (by decide))) ev_c (rv_eq rfl))) ?_, fun _ => ed_int ev_c⟩
      show decide (V.int _ = V.int 1) = decide (lsizeF (lformI u l) ((t.map PyData.str).map strOf) ((t.map PyData.str).map strOf).length % 2 = 1)
      rw [strOf_map, Bool.eq_iff_iff]
      simp
    · unfold loddF
      rw [List.length_map, List.filter_map, List.length_map]
      refine congrArg (fun n : Nat => V.int n) (congrArg List.length (List.filter_congr fun t _ => ?_))
      show decide (lsizeF (lformI u l) ((t.map PyData.str).map strOf) ((t.map PyData.str).map strOf).length % 2 = 1) = _
      rw [strOf_map]
    · have hp6 := e6 _ _ hp
      unfold lparF at q
      rw [← hsub] at q
      have lz : (2 : Int) * (loddF u l sets : Int) < 1000 := by
        have : loddF u l sets ≤ sets.length := List.length_filter_le _ _
        omega
      refine s_ret (ev_op (ev_intB (ev_op (ev_op ev_c (ev_var rfl) (rv_I (Or.inl ⟨by decide, by decide⟩))) (ev_is (ev_len (ev_var rfl) (sq_of hp6)) (by rw [lv])) rv_I0)) (ev_intB (ev_op (ev_op ev_c (ev_var rfl) (rv_I (Or.inl ⟨by decide, by decide⟩))) (ev_is (ev_len (ev_var rfl) (sq_of hp6)) (by rw [lv])) rv_I0)) rv_I0) fun H7 e7 => q H7 (e03.trans ((e5.trans tH).trans (e6.trans e7)))
end PR
end
section
set_option Elab.async false
set_option linter.all false
set_option maxRecDepth 100000
set_option maxHeartbeats 4000000
/-! The law's class. -/
namespace PR
open PySem PySem.Spec PyProof.Rows L2 Evl
def lettS (n : Nat) : List Str := (List.range n).map nthS
/-- the lower row of places -/
def belowS (n : Nat) (p : List Int) : List Str := (List.range n).map fun i : Nat => (lettS n).getD (p.idxOf (i : Int)) Str.empty
def lnextOk (n : Nat) (k : Bool) (p : List Int) : Bool := decide (p.length = n) && (List.range n).all (fun i => p.contains (i : Int)) && lledOk k (lettS n) (belowS n p) && (lledF k (lettS n) (belowS n p)).1.all fun x => (lledF k (lettS n) (belowS n p)).2.contains x
def lnextP (n : Nat) (k : Bool) (p : List Int) : List Int := plc (lledF k (lettS n) (belowS n p)).1 (lledF k (lettS n) (belowS n p)).2
def lstep (n : Nat) (k : Bool) (p : List Int) (s : List (List Int) × List (List Int)) : List (List Int) × List (List Int) := if s.1.contains (lnextP n k p) then s else (s.1 ++ [lnextP n k p], s.2 ++ [lnextP n k p])
def lclassF (n : Nat) : Nat → List (List Int) → List (List Int) → Option (List (List Int))
  | 0, _, _ => none
  | m + 1, known, waiting => if waiting = [] then some known else
    let p := waiting.getLastD []
    if lnextOk n false p && lnextOk n true p && decide (known.length < 5000) && decide (waiting.length < 5000) then lclassF n m (lstep n true p (lstep n false p (known, waiting.dropLast))).1 (lstep n true p (lstep n false p (known, waiting.dropLast))).2 else none
theorem edX_places {K : PySem.W.Frag} {σ : L2.St} {H : Hp} {ta tb : TE} {a b : Addr} {u l : List Str} (h1 : Ev ta σ H (.ref a)) (h2 : Ev tb σ H (.ref b)) (ha : H a = some (.lst (u.map V.str))) (hb : H b = some (.lst (l.map V.str))) (hz : u.length ≤ 1000) (hm : ∀ x ∈ u, x ∈ l) : EdX (tCall (spLPl K) [] E0 (tCons ta (tCons tb tNil))) σ H (plc u l) := fun H1 e Q q =>
  h1 H1 e _ fun H2 e2 => h2 H2 (e.trans e2) _ fun H3 e3 => ⟨a, b, u, l, rfl, ((e.trans e2).trans e3) _ _ ha, ((e.trans e2).trans e3) _ _ hb, hz, hm, fun v H4 e4 x => q v H4 ((e2.trans e3).trans e4) x⟩
theorem exl_one {σ : L2.St} {H : Hp} {ta : TE} {ns : List Int} (h : EdX ta σ H ns) : EdXL (tLst (tCons ta tNil)) σ H [ns] := fun H1 e Q q =>
  h H1 e _ fun v H2 e2 x => ⟨sz_of (by show 1 ≤ 100000; decide), fun p hp => q p _ _ (fresh_back e2 hp) (e2.trans (Ex.new hp)) upd_same (.cons (x.ex (Ex.new hp)) .nil)⟩
theorem dx_disp {P : Program} {w : World} {σ : L2.St} {H : Hp} {tk : TE} {v : V} {ns : List Int} {Q : VK} (hk : ∀ d, H d = none → EdX tk σ (upd H d (.dK [])) ns) (k : ∀ d H', H d = none → Ex H H' → DX P w H' d [(ns, v)] → Q (.ref d) H') : tDxDisp P w tk (tC v) σ H Q := fun d hd =>
  hk d hd _ (Ex.refl _) _ fun x H1 e1 hx => by
    obtain ⟨b, o, rfl, hb, _⟩ := id hx
    refine ⟨e1 _ _ upd_same, b, ns, rfl, hx, fun H' ko t dx => k d H' hd (fun a oo ha => ?_) dx⟩
    have hne : a ≠ d := fun z => by
      subst z
      rw [hd] at ha
      exact nomatch ha
    rw [ko a hne]
    exact e1 a oo (by rw [upd_ne hne]; exact ha)
theorem LyV.last {H : Hp} {vs : List V} {ps : List (List Int)} (h : LyV H vs ps) (hne : ps ≠ []) : ∃ v, vs[vs.length - 1]? = some v ∧ XT H v (ps.getLastD []) ∧ LyV H vs.dropLast ps.dropLast := by
  unfold LyV at h
  induction h with
  | nil => exact absurd rfl hne
  | @cons v p vs ps a t ih =>
    cases t with
    | nil => exact ⟨v, rfl, a, .nil⟩
    | @cons v2 p2 vs2 ps2 a2 t2 =>
      obtain ⟨w, h1, h2, h3⟩ := ih (fun z => nomatch z)
      refine ⟨w, ?_, ?_, .cons a h3⟩
      · simpa using h1
      · simpa using h2
theorem lett_len (n : Nat) : (lettS n).length = n := by unfold lettS; rw [List.length_map, List.length_range]
theorem lett_at {n i : Nat} (h : i < n) : (lettS n)[i]? = some (nthS i) := by
  unfold lettS
  rw [List.getElem?_map, List.getElem?_range h] <;> rfl
theorem ev_nthC {σ : L2.St} {H : Hp} {ta : TE} {i : Nat} (h : Ev ta σ H (.int (i : Int))) (hi : i < 26) : Ev (tCall spNth [] E0 (tCons ta tNil)) σ H (.str (nthS i)) := fun H1 e Q q =>
  h H1 e _ fun H2 e2 => ⟨i, rfl, hi, fun H3 e3 => q H3 (e2.trans e3)⟩
/-- amid a round of the law's class -/
structure Lnn (P : Program) (w : World) (H0 H : Hp) (d pw pn pb : Addr) (us ls : List Str) (s : List (List Int) × List (List Int)) : Prop where
  ex : Ex H0 H
  fd : H0 d = none
  fw : H0 pw = none
  dx : ∃ kvs, DX P w H d kvs ∧ kvs.map (·.1) = s.1
  wt : ∃ ws, H pw = some (.lst ws) ∧ LyV H ws s.2
  hn : H pn = some (.lst (us.map V.str))
  hb : H pb = some (.lst (ls.map V.str))
  n1 : pn ≠ pw ∧ pb ≠ pw
theorem Lnn.go {P : Program} {w : World} {H0 H H' : Hp} {d pw pn pb : Addr} {us ls : List Str} {s : List (List Int) × List (List Int)} (h : Lnn P w H0 H d pw pn pb us ls s) (e : Ex H H') : Lnn P w H0 H' d pw pn pb us ls s := by
  obtain ⟨h1, h2, h3, ⟨kvs, h4, h5⟩, ⟨ws, h6, h7⟩, h8, h9, h10⟩ := h
  exact ⟨h1.trans e, h2, h3, ⟨kvs, h4.ext e, h5⟩, ⟨ws, e _ _ h6, h7.up (exT e)⟩, e _ _ h8, e _ _ h9, h10⟩
theorem keys_has {kvs : List (List Int × V)} {ks : List (List Int)} (h : kvs.map (·.1) = ks) (p : List Int) : (valV kvs p).isSome = ks.contains p := by
  subst h
  induction kvs with
  | nil => rfl
  | cons a t ih =>
    by_cases e : a.1 = p
    · rw [valV_pos e]
      simp [e]
    · rw [valV_neg e, ih, List.map_cons, List.contains_cons]
      have : (p == a.1) = false := by simpa using fun z => e z.symm
      rw [this, Bool.false_or]
def lstepR (k : Bool) (us ls : List Str) (s : List (List Int) × List (List Int)) : List (List Int) × List (List Int) := if s.1.contains (plc (lledF k us ls).1 (lledF k us ls).2) then s else (s.1 ++ [plc (lledF k us ls).1 (lledF k us ls).2], s.2 ++ [plc (lledF k us ls).1 (lledF k us ls).2])
theorem lclass_turn {P : Program} {w : World} {K : PySem.W.Frag} {H0 H : Hp} {d pw pn pb a b : Addr} {us ls : List Str} {s : List (List Int) × List (List Int)} {n : Int} {vp : V} {y9 y10 : Option V} {k : Bool} {D : Ends} (h : Lnn P w H0 H d pw pn pb us ls s) (ok : lledOk k us ls = true)
    (hz : (lledF k us ls).1.length ≤ 1000) (hm : ∀ x ∈ (lledF k us ls).1, x ∈ (lledF k us ls).2) (z1 : s.1.length < 50000) (z2 : s.2.length < 50000)
    (q : ∀ y9 y10 H', Lnn P w H0 H' d pw pn pb us ls (lstepR k us ls s) → TEx H H' → D.nx [some (.ref a), some (.ref b), some (.int n), some (.ref pw), some (.ref d), some vp, some (.ref pn), some (.ref pb), some (.str (kindS k)), y9, y10, none] H') :
    tSeq (tAsg (tCall (spLLed K) [] E0 (tCons (tVar 6) (tCons (tVar 7) (tCons (tVar 8) tNil)))) (gName 9)) (tSeq (tAsg (tCall (spLPl K) [] E0 (tCons (tOp (rIxT K) (tVar 9) (tC (.int 0))) (tCons (tOp (rIxT K) (tVar 9) (tC (.int 1))) tNil))) (gName 10))
      (tIfS (tTest (tOp (rDxNi K P w) (tVar 10) (tVar 4))) (tSeq (sDxPut P w (tVar 4) (tVar 10) (tC (.bl true))) (tDrop (tBM K "list" rAppend (tVar 3) (tCons (tVar 10) tNil)))) tNext)) D
      [some (.ref a), some (.ref b), some (.int n), some (.ref pw), some (.ref d), some vp, some (.ref pn), some (.ref pb), some (.str (kindS k)), y9, y10, none] H := by
  refine ⟨_, rfl, _, rfl, _, rfl, pn, pb, us, ls, k, rfl, h.hn, h.hb, ok, fun T p q1 H1 e1 fT fp fq hT hp hq => ?_⟩
  have h1 := h.go e1
  have g0 : atI [V.ref p, V.ref q1] 0 = some (.ref p) := by rfl
  have g1 : atI [V.ref p, V.ref q1] 1 = some (.ref q1) := by rfl
  refine q_asgX (edX_places (K := K) (ev_op (ev_var rfl) ev_c (rv_ixT (SqT.of hT) g0)) (ev_op (ev_var rfl) ev_c (rv_ixT (SqT.of hT) g1)) hp hq hz hm) fun v7 H2 e2 x7 => ?_
  have h2 := h1.go e2
  obtain ⟨c, o, rfl, hc, _⟩ := id x7
  obtain ⟨kvs, dx, hk⟩ := h2.dx
  have ht : EvT (tTest (tOp (rDxNi K P w) (tVar 10) (tVar 4))) [some (.ref a), some (.ref b), some (.int n), some (.ref pw), some (.ref d), some vp, some (.ref pn), some (.ref pb), some (.str (kindS k)), some (.ref T), some (.ref c), none] H2 (!s.1.contains (plc (lledF k us ls).1 (lledF k us ls).2)) := fun H3 e3 Q q2 =>
    ⟨_, rfl, _, rfl, Or.inl ⟨c, d, kvs, _, rfl, rfl, dx.ext e3, (x7.ex e3).sq, _, rfl, by rw [keys_has hk]; exact q2 H3 (Ex.refl _)⟩⟩
  refine s_when ht (fun hb' H3 e3 => ?_) fun hb' H3 e3 => ?_
  · have hno : s.1.contains (plc (lledF k us ls).1 (lledF k us ls).2) = false := by simpa using hb'
    have hst : lstepR k us ls s = (s.1 ++ [plc (lledF k us ls).1 (lledF k us ls).2], s.2 ++ [plc (lledF k us ls).1 (lledF k us ls).2]) := by
      unfold lstepR
      rw [hno] <;> rfl
    rw [hst] at q
    have h3 := h2.go e3
    have dx3 := dx.ext e3
    have x73 := x7.ex e3
    have len : kvs.length = s.1.length := by rw [← hk, List.length_map]
    refine ⟨_, rfl, _, rfl, d, c, kvs, _, rfl, rfl, dx3, x73, ?_, by omega, fun H4 ko t4 dx4 => ?_⟩
    · cases hv : valV kvs (plc (lledF k us ls).1 (lledF k us ls).2) with
      | none => rfl
      | some _ =>
        have := keys_has hk (plc (lledF k us ls).1 (lledF k us ls).2)
        rw [hv, hno] at this
        exact nomatch this
    · obtain ⟨ws, hws, lw⟩ := h3.wt
      have nl : pw ≠ d := fun z => by
        subst z
        exact dx3.ne hws rfl
      have nn : pn ≠ d := fun z => by
        subst z
        exact dx3.ne h3.hn rfl
      have nb : pb ≠ d := fun z => by
        subst z
        exact dx3.ne h3.hb rfl
      have hws4 : H4 pw = some (.lst ws) := by rw [ko _ nl]; exact hws
      have lwl : ws.length = s.2.length := Paired.length lw
      refine s_app hws4 (ev_var rfl) (ev_var rfl) (by omega) fun H5 e5 => ?_
      have hws5 := e5 _ _ hws4
      have t5 : TEx H5 (upd H5 pw (.lst (ws ++ [.ref c]))) := TEx.lst hws5
      have t35 := t4.trans ((exT e5).trans t5)
      have ex4 : Ex H0 H4 := fun aa oo ha => by
        rw [ko aa (fun z => by subst z; rw [h.fd] at ha; exact nomatch ha)]
        exact h3.ex aa oo ha
      refine q _ _ _ ⟨Ex.mut (ex4.trans e5) h.fw, h.fd, h.fw, ⟨kvs ++ [(_, .bl true)], (dx4.ext e5).other (Ne.symm nl) t5, ?_⟩, ⟨_, upd_same, paired_snoc' (lw.up t35) (x73.up t35)⟩, ?_, ?_, h.n1⟩ ((exT ((e1.trans e2).trans e3)).trans t35)
      · rw [List.map_append, hk] <;> rfl
      · rw [upd_ne h.n1.1]
        refine e5 _ _ ?_
        rw [ko _ nn]
        exact h3.hn
      · rw [upd_ne h.n1.2]
        refine e5 _ _ ?_
        rw [ko _ nb]
        exact h3.hb
  · have hno : s.1.contains (plc (lledF k us ls).1 (lledF k us ls).2) = true := by simpa using hb'
    have hst : lstepR k us ls s = s := by
      unfold lstepR
      rw [hno] <;> rfl
    rw [hst] at q
    exact q _ _ H3 (h2.go e3) (exT ((e1.trans e2).trans e3))
def spLClass (K : PySem.W.Frag) : Sp := fun vs H Q _ => ∃ (a b : Addr) (u l : List Str) (m : Nat) (ks : List (List Int)), vs = [.ref a, .ref b] ∧ H a = some (.lst (u.map V.str)) ∧ H b = some (.lst (l.map V.str)) ∧ 1 ≤ u.length ∧ u.length ≤ 20 ∧ (∀ x ∈ u, x ∈ l) ∧ lclassF u.length m [plc u l] [plc u l] = some ks ∧ (∀ p ∈ ks, p ≠ []) ∧
  ∀ q ws H', H q = none → Ex H H' → H' q = some (.lst ws) → LyV H' ws (sortP ks) → Q (.ref q) H'
theorem sc__law_class : FnScope ["_law_upper", "_law_lower", "_law_times", "_law_waiting", "_law_known", "_law_places_here", "_law_names", "_law_below", "_law_kind", "_law_rows", "_law_later", "_law_at"] ["_law_upper", "_law_lower"] (defScope (gF "_law_class" 87).st) := ⟨rfl, rfl, rfl, by decide +kernel, rfl, by decide +kernel, by decide +kernel⟩
theorem c__law_class {P : Program} {w : World} {K : PySem.W.Frag} {mg : Str → Option Value} {base : Heap} (W : W0 K mg base) : Cal P w K mg base 3 (gF "_law_class" 87) ["_law_upper", "_law_lower"] (spLClass K) := by
  refine Cal.of W 71 rfl sc__law_class (fun vs H Q E h => ?len) (fun _ _ _ _ _ _ us hl => match us, hl with | [_, _], _ => rfl) (fun cdv A outer s H vs Q E hr h => ?body)
  case len => obtain ⟨_, _, _, _, _, _, rfl, _⟩ := h; rfl
  have nd := sc__law_class.nd
  refine ⟨_, (pss_cons (ps_set (i := 2) nd rfl (Or.inl rfl) (pe_callB (k_len K) rfl (W.f 0 rfl) bb_len (pa_cons (pv 0) pa_nil)))
      (pss_cons (ps_par (i := 3) (j := 4) rfl nd rfl rfl (by decide) rfl rfl (pa_cons (pe_lst (pa_cons (k_cal K (c__law_places W) (hr.mono (by decide)) rfl (W.g 59 rfl) (pa_cons (pv 0) (pa_cons (pv 1) pa_nil))) pa_nil)) (pa_cons (pe_dxdisp (hu_of hr) (k_cal K (c__law_places W) (hr.mono (by decide)) rfl (W.g 59 rfl) (pa_cons (pv 0) (pa_cons (pv 1) pa_nil))) pe_bl) pa_nil)) rfl)
      (pss_cons (ps_while PassesOwn.never (pt_cmpR (k_neD K hr.units) (pv 3) (pe_lst pa_nil) (nomark _)) (pss_cons (ps_set (i := 5) nd rfl (Or.inr rfl) (pe_bm0 PySem.F.plainAttrs_list PySem.F.slot_list_pop PySem.F.type_list_pop mt_pop (pv 3)))
      (pss_cons (ps_set (i := 6) nd rfl (Or.inr rfl) (pe_lc (own := [("_law_at", 11)]) (g := (gName 11)) (tt := tYes) rfl nd (pi_range1 rfl (W.f 11 rfl) (pa_cons (pv 2) pa_nil)) (blkOk_by (N := ["_law_upper", "_law_lower", "_law_times", "_law_waiting", "_law_known", "_law_places_here", "_law_names", "_law_below", "_law_kind", "_law_rows", "_law_later", "_law_at"]) (sc := defScope (gF "_law_class" 87).st) (by decide +kernel)) (fun _ _ _ _ _ => (pg_name (i := 11) nd rfl (by first | exact Or.inl rfl | exact Or.inr rfl))) (fun _ _ _ _ _ => pts_nil) (fun _ _ _ _ _ => (k_cal K (c__law_nth W) (hr.mono (by decide)) rfl (W.g 46 rfl) (pa_cons (pv 11) pa_nil)))))
      (pss_cons (ps_setLc (own := [("_law_at", 11)]) (g := (gName 11)) (tt := tYes) (i := 7) rfl nd rfl rfl (sw_true rfl rfl rfl (by decide +kernel)) (pi_range1 rfl (W.f 11 rfl) (pa_cons (pv 2) pa_nil)) (blkOk_by (N := ["_law_upper", "_law_lower", "_law_times", "_law_waiting", "_law_known", "_law_places_here", "_law_names", "_law_below", "_law_kind", "_law_rows", "_law_later", "_law_at"]) (sc := defScope (gF "_law_class" 87).st) (by decide +kernel)) (fun _ _ _ _ _ => (pg_name (i := 11) nd rfl (by first | exact Or.inl rfl | exact Or.inr rfl))) (fun _ _ _ _ _ => pts_nil) (fun _ _ _ _ _ => (pe_ix (k_ixL K) (pv 6) (pe_tidx (pv 5) (pa_cons (pv 11) pa_nil)) (fun _ _ => rfl))))
      (pss_one (ps_for PassesOwn.never rfl (k_pi_tup K (pe_tup (pa_cons pe_str (pa_cons pe_str pa_nil)))) (pg_name (i := 8) nd rfl (Or.inl rfl)) (pss_cons (ps_set (i := 9) nd rfl (Or.inl rfl) (k_cal K (c__law_led W) (hr.mono (by decide)) rfl (W.g 50 rfl) (pa_cons (pv 6) (pa_cons (pv 7) (pa_cons (pv 8) pa_nil)))))
      (pss_cons (ps_set (i := 10) nd rfl (Or.inl rfl) (k_cal K (c__law_places W) (hr.mono (by decide)) rfl (W.g 59 rfl) (pa_cons (pe_ix (k_ixT K) (pv 9) pe_int (fun _ _ => rfl)) (pa_cons (pe_ix (k_ixT K) (pv 9) pe_int (fun _ _ => rfl)) pa_nil))))
      (pss_one (ps_if (pt_cmpR (op_dxNi (hu_of hr)) (pv 10) (pv 4) (by with_unfolding_all rfl)) (pss_cons (ps_dxput (hu_of hr) (pv 4) (pv 10) pe_bl rfl)
      (pss_one (ps_expr (k_bm K PySem.F.plainAttrs_list PySem.F.slot_list_append PySem.F.type_list_append mt_append (pv 3) (pa_cons (pv 10) pa_nil))))) pss_nil))))))))))
      (pss_one (ps_ret (pe_callB (cr_sortX rfl hr.units) rfl (W.f 8 rfl) bb_sorted (pa_cons (pv 4) pa_nil))))))), ?_⟩
  obtain ⟨a, b, u, l, m, ks, rfl, ha, hb, z1, z2, hm, hf, hne, q⟩ := h
  refine q_asg (v := .int (u.length : Int)) (ev_is (ev_len (ev_var rfl) (sq_of ha)) (by rw [List.length_map])) fun H1 e1 => ?_
  refine q_par ?_
  refine (exl_one (edX_places (K := K) (ev_var rfl) (ev_var rfl) (e1 _ _ ha) (e1 _ _ hb) (by omega) hm)) H1 (Ex.refl _) _ fun pw ws H2 f2 e2 h2 lw => ?_
  refine dx_disp (ns := plc u l) (fun d hd => edX_places (K := K) (ev_var rfl) (ev_var rfl) (((e1.trans e2).trans (Ex.new hd)) _ _ ha) (((e1.trans e2).trans (Ex.new hd)) _ _ hb) (by omega) hm) fun d H3 fd e3 dx => ⟨_, _, rfl, ?_⟩
  have fpw : H pw = none := fresh_back e1 f2
  have fdd : H d = none := fresh_back (e1.trans e2) fd
  refine q_while (fun m σ' H' => ∃ vs waiting kvs known y5 y6 y7 y8 y9 y10, σ' = [some (.ref a), some (.ref b), some (.int (u.length : Int)), some (.ref pw), some (.ref d), y5, y6, y7, y8, y9, y10, none] ∧ Ex H H' ∧ DX P w H' d kvs ∧ kvs.map (·.1) = known ∧ H' pw = some (.lst vs) ∧ LyV H' vs waiting ∧ lclassF u.length m known waiting = some ks) m
    ⟨ws, [plc u l], _, _, none, none, none, none, none, none, rfl, (e1.trans e2).trans e3, dx, rfl, e3 _ _ h2, lw.up (exT e3), hf⟩ fun m' σ' H4 hw => ?_
  obtain ⟨vs, waiting, kvs, known, y5, y6, y7, y8, y9, y10, rfl, eH, dx4, hkn, hpw, lv, hm4⟩ := hw
  cases m' with
  | zero => exact nomatch hm4
  | succ m' =>
    unfold lclassF at hm4
    refine ⟨!decide (waiting = []), et_test (ev_neLsL (es := []) (ev_var rfl) (sq_of hpw) lv.rps edL_nil (shaped_tT waiting).1 (shaped_tT []).1 (eqvL_tI waiting [])), fun hb' H5 e5 => ?_, fun hb' H5 e5 => ?_⟩
    · have hwne : waiting ≠ [] := by simpa using hb'
      rw [if_neg hwne] at hm4
      dsimp only at hm4
      generalize hpd : waiting.getLastD [] = p at hm4
      by_cases hok : (lnextOk u.length false p && lnextOk u.length true p && decide (known.length < 5000) && decide (waiting.length < 5000)) = true
      · rw [if_pos hok] at hm4
        simp only [Bool.and_eq_true, decide_eq_true_eq] at hok
        obtain ⟨⟨⟨ok1, ok2⟩, zk⟩, zw⟩ := hok
        have hpw5 := e5 _ _ hpw
        obtain ⟨vp, hv1, hxp, lv'⟩ := (lv.up (exT e5)).last hwne
        rw [hpd] at hxp
        refine ⟨fun σ' H' => ∃ vs waiting kvs known y5 y6 y7 y8 y9 y10, σ' = [some (.ref a), some (.ref b), some (.int (u.length : Int)), some (.ref pw), some (.ref d), y5, y6, y7, y8, y9, y10, none] ∧ Ex H H' ∧ DX P w H' d kvs ∧ kvs.map (·.1) = known ∧ H' pw = some (.lst vs) ∧ LyV H' vs waiting ∧ lclassF u.length m' known waiting = some ks, fun σ2 H6 z => ⟨m', Nat.lt_succ_self _, z⟩, ?_⟩
        refine ⟨_, rfl, Or.inl ⟨rfl, _, sq_of hpw5⟩, pw, vs, vp, rfl, rfl, hpw5, hv1, ?_⟩
        have e6 : Ex H (upd H5 pw (.lst vs.dropLast)) := Ex.mut (eH.trans e5) fpw
        have t6 : TEx H5 (upd H5 pw (.lst vs.dropLast)) := TEx.lst hpw5
        have dx6 : DX P w (upd H5 pw (.lst vs.dropLast)) d kvs := (dx4.ext e5).other ((dx4.ext e5).ne hpw5) t6
        have h6w : upd H5 pw (.lst vs.dropLast) pw = some (.lst vs.dropLast) := upd_same
        have lv6 := lv'.up t6
        have hx6 := hxp.up t6
        generalize upd H5 pw (.lst vs.dropLast) = H6 at e6 dx6 h6w lv6 hx6 ⊢
        have okp : p.length = u.length ∧ (∀ i : Nat, i < u.length → (i : Int) ∈ p) ∧ ∀ k, lledOk k (lettS u.length) (belowS u.length p) = true ∧ (∀ x ∈ (lledF k (lettS u.length) (belowS u.length p)).1, x ∈ (lledF k (lettS u.length) (belowS u.length p)).2) := by
          unfold lnextOk at ok1 ok2
          simp only [Bool.and_eq_true, decide_eq_true_eq, List.all_eq_true] at ok1 ok2
          obtain ⟨⟨⟨a1, a2⟩, a3⟩, a4⟩ := ok1
          obtain ⟨⟨⟨_, _⟩, b3⟩, b4⟩ := ok2
          refine ⟨a1, fun i hi => by simpa using a2 i (List.mem_range.mpr hi), fun k => ?_⟩
          cases k with
          | true => exact ⟨b3, fun x hx => by simpa using b4 x hx⟩
          | false => exact ⟨a3, fun x hx => by simpa using a4 x hx⟩
        obtain ⟨pl, pin, pok⟩ := okp
        refine q_asgM (K := K) (ds := (lettS u.length).map PyData.str) (edL_is (edL_map (K := K) (ws := [11]) (j := 11) (fun d => match d with | .int i => .str (nthS i.toNat) | _ => .none) (edI_rng1 (n := (u.length : Int)) (eva_cons (ev_var rfl) eva_nil) (by omega)) (fun _ _ => exT) (by rw [rng_len]; omega) (fun _ => rfl) fun dd y H7 e7 hm7 r7 => ?_) ?_) fun pn vsn H7 f7 e7 h7 r7 => ?_
        · obtain ⟨i, hi⟩ := List.mem_iff_getElem?.mp hm7
          obtain ⟨hi2, rfl⟩ := rng_ix hi
          cases r7
          have hi3 : i < u.length := by simpa using hi2
          show Ed K _ _ H7 (.str (nthS (i : Int).toNat))
          rw [Int.toNat_natCast]
          exact ed_str (ev_nthC (ev_var rfl) (by omega))
        · unfold rngD lettS
          rw [List.map_map, List.map_map, Int.toNat_natCast]
          refine List.map_congr_left fun i _ => ?_
          show PyData.str (nthS ((0 : Int) + (i : Int)).toNat) = PyData.str (nthS i)
          rw [Int.zero_add, Int.toNat_natCast]
        · have z := r7.strs
          subst z
          have hx7 := hx6.ex e7
          refine q_asgM (K := K) (ds := (belowS u.length p).map PyData.str) (edL_is (edL_map (K := K) (ws := [11]) (j := 11) (fun d => match d with | .int i => .str ((lettS u.length).getD (p.idxOf i) Str.empty) | _ => .none) (edI_rng1 (n := (u.length : Int)) (eva_cons (ev_var rfl) eva_nil) (by omega)) (fun _ _ => exT) (by rw [rng_len]; omega) (fun _ => rfl) fun dd y H8 e8 hm8 r8 => ?_) ?_) fun pb vsb H8 f8 e8 h8 r8 => ?_
          · obtain ⟨i, hi⟩ := List.mem_iff_getElem?.mp hm8
            obtain ⟨hi2, rfl⟩ := rng_ix hi
            cases r8
            have hi3 : i < u.length := by simpa using hi2
            have hmem := pin i hi3
            have hlt : p.idxOf (i : Int) < (lettS u.length).length := by
              rw [lett_len, ← pl]
              exact List.idxOf_lt_length_iff.mpr hmem
            refine ed_str (ev_sIx (ev_var rfl) (sq_of (e8 _ _ h7)) (ev_idx (edX_var rfl (hx7.ex e8)) (ev_var rfl) hmem) (atI_nat ?_))
            rw [List.getElem?_map, List.getD_eq_getElem?_getD, List.getElem?_eq_getElem hlt] <;> rfl
          · unfold rngD belowS
            rw [List.map_map, List.map_map, Int.toNat_natCast]
            refine List.map_congr_left fun i _ => ?_
            show PyData.str ((lettS u.length).getD (p.idxOf ((0 : Int) + (i : Int))) Str.empty) = _
            rw [Int.zero_add] <;> rfl
          · have z := r8.strs
            subst z
            have e68 := e7.trans e8
            have npn : pn ≠ pw := fun z => by
              subst z
              rw [h6w] at f7
              exact nomatch f7
            have npb : pb ≠ pw := fun z => by
              subst z
              rw [e7 _ _ h6w] at f8
              exact nomatch f8
            have ll : (lettS u.length).length = u.length := lett_len _
            have st0 : Lnn P w H H8 d pw pn pb (lettS u.length) (belowS u.length p) (known, waiting.dropLast) := ⟨e6.trans e68, fdd, fpw, ⟨kvs, dx6.ext e68, hkn⟩, ⟨_, e68 _ _ h6w, lv6.up (exT e68)⟩, e8 _ _ h7, h8, npn, npb⟩
            have lz : ∀ k, (lledF k (lettS u.length) (belowS u.length p)).1.length ≤ 1000 := fun k => by
              cases k with
              | true => show (lettS u.length).length ≤ 1000; omega
              | false =>
                show (insA (lettS u.length).dropLast _ _).length ≤ 1000
                unfold insA
                simp only [List.length_append, List.length_cons, List.length_take, List.length_drop, List.length_dropLast]
                omega
            have wz : waiting.dropLast.length < 5000 := by rw [List.length_dropLast]; omega
            have sl : ∀ k s, (lstepR k (lettS u.length) (belowS u.length p) s).1.length ≤ s.1.length + 1 ∧ (lstepR k (lettS u.length) (belowS u.length p) s).2.length ≤ s.2.length + 1 := fun k s => by
              unfold lstepR
              split
              · exact ⟨by omega, by omega⟩
              · simp
            refine s_forD (K := K) (edI_tup (ed_tup (ds := [.str (kindS false), .str (kindS true)]) (eds_cons (ed_str ev_c) (eds_cons (ed_str ev_c) eds_nil)) (by show 2 ≤ 100000; decide))) (fun H9 i σ' H' => ∃ y8 y9 y10, σ' = [some (.ref a), some (.ref b), some (.int (u.length : Int)), some (.ref pw), some (.ref d), some vp, some (.ref pn), some (.ref pb), y8, y9, y10, none] ∧ TEx H9 H' ∧ Lnn P w H H' d pw pn pb (lettS u.length) (belowS u.length p) (if i = 0 then (known, waiting.dropLast) else if i = 1 then lstepR false (lettS u.length) (belowS u.length p) (known, waiting.dropLast) else lstepR true (lettS u.length) (belowS u.length p) (lstepR false (lettS u.length) (belowS u.length p) (known, waiting.dropLast))))
              (fun H9 e9 => ⟨y8, y9, y10, rfl, TEx.refl _, st0.go e9⟩) (fun H9 i σ' H' _ _ pv => by obtain ⟨_, _, _, _, t, _⟩ := pv; exact t) (fun H9 i dd x σ' H' H'' e9 hdd pv e10 rx => ?_) (fun H9 σ' H' e9 pv => ?_)
            · obtain ⟨y8, y9, y10, rfl, tH, st⟩ := pv
              match i, hdd, st with
              | 0, hdd, st =>
                cases hdd
                cases rx
                exact lclass_turn (K := K) (s := (known, waiting.dropLast)) (k := false) (st.go e10) (pok false).1 (lz false) (pok false).2 (by show known.length < 50000; omega) (by show waiting.dropLast.length < 50000; omega) fun y9 y10 H11 st' t' => ⟨_, _, _, rfl, tH.trans ((exT e10).trans t'), st'⟩
              | 1, hdd, st =>
                cases hdd
                cases rx
                have := sl false (known, waiting.dropLast)
                exact lclass_turn (K := K) (s := lstepR false (lettS u.length) (belowS u.length p) (known, waiting.dropLast)) (k := true) (st.go e10) (pok true).1 (lz true) (pok true).2 (by have := this.1; dsimp only at this; omega) (by have := this.2; dsimp only at this; omega) fun y9 y10 H11 st' t' => ⟨_, _, _, rfl, tH.trans ((exT e10).trans t'), st'⟩
              | n + 2, hdd, _ => exact nomatch hdd
            · obtain ⟨y8, y9, y10, rfl, tH, st⟩ := pv
              obtain ⟨kvs', dx', hk'⟩ := st.dx
              obtain ⟨ws', hws', lw'⟩ := st.wt
              exact ⟨ws', _, kvs', _, _, _, _, _, _, _, rfl, st.ex, dx', hk', hws', lw', hm4⟩
      · rw [if_neg hok] at hm4
        exact nomatch hm4
    · have hw0 : waiting = [] := by simpa using hb'
      rw [if_pos hw0] at hm4
      cases hm4
      have hkeys : ∀ kv ∈ kvs, kv.1 ≠ [] := fun kv hkv => hne _ (by rw [← hkn]; exact List.mem_map.mpr ⟨kv, hkv, rfl⟩)
      refine ⟨_, rfl, d, kvs, rfl, dx4.ext e5, hkeys, fun q' ws' hq' hws' => ?_⟩
      rw [hkn] at hws'
      exact q q' ws' _ (fresh_back (eH.trans e5) hq') ((eH.trans e5).trans (Ex.new hq')) upd_same (LyV.up hws' (exT (Ex.new hq')))
end PR
end
section
set_option Elab.async false
set_option linter.all false
set_option maxRecDepth 100000
set_option maxHeartbeats 4000000
/-! Frames, parity, marks: the code table may grow. -/
namespace PR
open PySem PySem.Spec PyProof.Rows L2 Evl
/-- all stays but the table at P, which is a table still -/
structure ExT (P : Addr) (H H' : Hp) : Prop where
  at_ : ∀ a o, a ≠ P → H a = some o → H' a = some o
  tab : GxR.TabG H' P
theorem ExT.of {P : Addr} {H H' : Hp} (t : GxR.TabG H P) (e : Ex H H') : ExT P H H' := ⟨fun a o _ h => e a o h, let ⟨ps, h, k⟩ := t; ⟨ps, e _ _ h, k⟩⟩
theorem ExT.trans {P : Addr} {H H1 H2 : Hp} (a : ExT P H H1) (b : ExT P H1 H2) : ExT P H H2 := ⟨fun x o n h => b.at_ x o n (a.at_ x o n h), b.tab⟩
theorem ExT.ex {P : Addr} {H H1 H2 : Hp} (a : ExT P H H1) (e : Ex H1 H2) : ExT P H H2 := a.trans (.of a.tab e)
theorem ExT.tabbed {P : Addr} {H H' : Hp} (h : GxR.Tabbed P H H') : ExT P H H' := ⟨fun a o n e => by rw [h.2 a n]; exact e, h.1⟩
theorem TabG.ne {P a : Addr} {H : Hp} {o : HO} (t : GxR.TabG H P) (h : H a = some o) (n : ∀ ps, o ≠ .tbl ps) : a ≠ P := by
  rintro rfl
  obtain ⟨ps, h2, _⟩ := t
  rw [h] at h2
  exact n ps (Option.some.inj h2)
theorem TabG.nn {P a : Addr} {H : Hp} (t : GxR.TabG H P) (h : H a = none) : a ≠ P := by
  rintro rfl
  obtain ⟨ps, h2, _⟩ := t
  rw [h] at h2
  exact nomatch h2
theorem ExT.go {P a : Addr} {H H' : Hp} {o : HO} (e : ExT P H H') (t : GxR.TabG H P) (h : H a = some o) (n : ∀ ps, o ≠ .tbl ps) : H' a = some o := e.at_ a o (TabG.ne t h n) h
theorem ExT.fresh {P p : Addr} {H H' : Hp} (e : ExT P H H') (h : H' p = none) : H p = none := by
  cases q : H p with
  | none => rfl
  | some o =>
    rw [e.at_ p o (TabG.nn e.tab h) q] at h
    exact nomatch h
theorem ExT.mut {P p : Addr} {H H' : Hp} {o : HO} (e : ExT P H H') (t : GxR.TabG H P) (h : H p = none) : ExT P H (upd H' p o) :=
  ⟨fun a u n hu => by rw [upd_ne (ne_of_none hu h)]; exact e.at_ a u n hu, let ⟨ps, h2, k⟩ := e.tab; ⟨ps, by rw [upd_ne (Ne.symm (TabG.nn t h))]; exact h2, k⟩⟩
theorem ExT.rd {P a : Addr} {H H' : Hp} {o : HO} (e : ExT P H H') (t : GxR.TabG H P) (n : ∀ ps, o ≠ .tbl ps) (h : Rd H a o) : Rd H' a o := h.elim (fun z => .inl (e.go t z n)) fun ⟨w, z⟩ => .inr ⟨w, e.go t z fun _ q => nomatch q⟩
theorem ExT.tex {P : Addr} {H H' : Hp} (e : ExT P H H') (t : GxR.TabG H P) : TEx H H' := ⟨fun _ _ h => e.rd t (fun _ q => nomatch q) h, fun _ _ _ h => e.go t h fun _ q => nomatch q⟩
theorem ExT.sqL {P a : Addr} {K : PySem.W.Frag} {H H' : Hp} {xs : List V} (e : ExT P H H') (t : GxR.TabG H P) (h : SqL K H a xs) : SqL K H' a xs := h.elim (fun z => .inl (e.rd t (fun _ q => nomatch q) z)) .inr
theorem slt_exT {P : Addr} {H H' : Hp} {a C dx : Addr} {vs : List (Option V)} (e : ExT P H H') (t : GxR.TabG H P) (h : SlX.Slt H a C dx vs) : SlX.Slt H' a C dx vs := by
  rcases h with ⟨h1, h2⟩ | ⟨h1, h2⟩
  · exact .inl ⟨e.go t h1 (fun _ q => nomatch q), h2⟩
  · exact .inr ⟨e.go t h1 (fun _ q => by unfold SlX.SlO at q; cases q), e.go t h2 (fun _ q => nomatch q)⟩
theorem IsOrd.exT {P : Addr} {K : PySem.W.Frag} {H H' : Hp} {a : Addr} {u l : List Str} (h : IsOrd K H a u l) (e : ExT P H H') (t : GxR.TabG H P) : IsOrd K H' a u l := by
  obtain ⟨ok, dx, vs, vu, vl, vp, du, dl, h1, h2, h3, h4, h5, h6, h7⟩ := h
  have x := e.tex t
  exact ⟨ok, dx, vs, vu, vl, vp, du, dl, slt_exT e t h1, h2, h3.up x, h4.up x, h5.up x, e.go t h6 (fun _ q => nomatch q), e.go t h7 (fun _ q => nomatch q)⟩
theorem IsCr.exT {P : Addr} {K : PySem.W.Frag} {H H' : Hp} {a : Addr} {u : List Str} {rows : List Int} (h : IsCr K H a u rows) (e : ExT P H H') (t : GxR.TabG H P) : IsCr K H' a u rows := by
  obtain ⟨ok, dx, vs, vu, lr, h1, h2, h3, h4, h5⟩ := h
  exact ⟨ok, dx, vs, vu, lr, slt_exT e t h1, h2, h3, h4.up (e.tex t), e.go t h5 (fun _ q => nomatch q)⟩
/-- a def whose code is known -/
theorem Cal.ofC {P : Program} {w : World} {K : PySem.W.Frag} {mg : Str → Option Value} {base : Heap} (W : W0 K mg base) (i : Nat) {d : DfP} {N ps : List Str} {k : Nat} {sp : Sp} (hd : dfs[i]? = some d) (hf : d.ad K = He.ma K (He.ga K "Crossings") "frame") (S : FnScope N ps (defScope d.st)) (len : ∀ vs H Q E, sp vs H Q E → vs.length = ps.length)
    (bnd : ∀ (kV doc pm : Value) (an : Option Addr) (cdv ct : Value) (us : List Value), us.length = ps.length → bindArgs (PySem.W.fnOf d.nm d.ql (defArgs d.st) (defBody d.st) (defScope d.st) .none kV doc pm an cdv ct) ⟨us, []⟩ = pure (ps.zip us))
    (hbody : ∀ (cdv : Value) (A : Around) (outer : List Env) (s : Shared) (H : Hp) (vs : List V) (Q : VK) (E : XK), cdv = .ref (tCode K) → Room k (A.deeper (envOfC d.ql (defScope d.st) s.heap.objs.size (d.ad K) cdv)) → sp vs H Q E →
      ∃ t, PSs (cxOf CX0 P w K mg base N d.ql (defScope d.st) (d.ad K) cdv A outer s H E).nox (defBody d.st) t ∧ t { nx := fun _ H' => Q .non H', rt := Q } (start N vs) H) : Cal P w K mg base (k + 1) d ps sp := by
  obtain ⟨fd, F⟩ := W.fu d (List.mem_of_getElem? hd)
  refine ⟨fd, ?_, F.binds bnd, F.kp⟩
  obtain ⟨oc, od, kV, doc, pm, an, cdv, ct, osl, rfl, lk, hcd⟩ := F.ex
  have hc : cdv = .ref (tCode K) := W.tabc oc od _ osl (hf ▸ lk)
  refine fn_of lk hcd S len fun A outer s H vs Q E hr hsp => ?_
  obtain ⟨t, h, q⟩ := hbody cdv A outer s H vs Q E hc hr hsp
  exact ⟨t, h.nox, q⟩
/-- next of a generator over a list of ints -/
theorem ev_nextG {K : PySem.W.Frag} {P : Addr} {σ : L2.St} {H : Hp} {i j p : Nat} {ns : List Int} {f : Int → Bool} {t : TT} {ws : List Nat} {Q : VK} (hT : GxR.TabG H P) (hσ : σ[i]? = some (some (.ref p))) (hp : SqL K H p (ns.map V.int)) (hw : ∀ x, wipe ((wipe σ ws).set j (some x)) ws = wipe σ ws)
    (hj : ∀ x, ((wipe σ ws).set j (some x))[j]? = some (some x)) (turn : ∀ x H1, ExT P H H1 → EvT t ((wipe σ ws).set j (some (.int x))) H1 (f x))
    (k : ∀ H', ExT P H H' → Q (match ns.find? f with | some x => .int x | none => .non) H') : tNextG P (iList K (tVar i)) (gName j) t (tVar j) ws σ H Q := by
  refine ⟨_, hσ, p, rfl, ⟨_, hp⟩, hT, fun H2 hT2 => ?_⟩
  have e2 : ExT P H H2 := .tabbed hT2
  refine ⟨fun i m H' => m = ns.length - i ∧ i ≤ ns.length ∧ ExT P H H' ∧ ∀ x ∈ ns.take i, f x = false, ⟨ns.length, by simp, Nat.zero_le _, e2, by simp⟩, ?_⟩
  rintro i m H' ⟨rfl, hi, eH, hno⟩
  have hp' := eH.sqL hT hp
  by_cases hlt : i < ns.length
  · have hx : (ns.map V.int)[i]? = some (.int ns[i]) := by rw [List.getElem?_map, List.getElem?_eq_getElem hlt] <;> rfl
    refine .inr ⟨⟨_, .int ns[i], hp', hx⟩, fun H3 => ExT P H H3 ∧ ∀ x ∈ ns.take (i + 1), f x = false, fun H3 z => ⟨ns.length - (i + 1), by omega, rfl, hlt, z.1, z.2⟩, fun x H3 y => ?_⟩
    obtain ⟨rfl, y⟩ := y
    have ex : x = .int ns[i] := by
      have := y _ hp'
      rw [hx] at this
      exact (Option.some.inj this).symm
    subst ex
    refine ⟨hw _, turn ns[i] _ eH H3 (Ex.refl _) _ fun H4 e4 => ?_⟩
    cases hf : f ns[i] with
    | true =>
      rw [if_pos rfl]
      refine ⟨_, hj _, ?_⟩
      have z := k H4 (eH.ex e4)
      have hfi : ns.find? f = some ns[i] := by
        rw [List.find?_eq_some_iff_getElem]
        refine ⟨hf, i, hlt, rfl, fun j hj => ?_⟩
        have : ns[j] ∈ ns.take (i + 1) := List.mem_take_iff_getElem.mpr ⟨j, by omega, rfl⟩
        have hm : ns[j] ∈ ns.take i := List.mem_take_iff_getElem.mpr ⟨j, by omega, rfl⟩
        rw [hno _ hm] <;> rfl
      rw [hfi] at z
      exact z
    | false =>
      rw [if_neg Bool.false_ne_true]
      refine ⟨eH.ex e4, fun x hx => ?_⟩
      rw [List.take_add_one, List.getElem?_eq_getElem hlt] at hx
      rcases List.mem_append.mp hx with z | z
      · exact hno x z
      · have e : x = ns[i] := by simpa using z
        rw [e]
        exact hf
  · have e : i = ns.length := by omega
    subst e
    refine .inl ⟨⟨_, hp', by rw [List.length_map]; exact Nat.le_refl _⟩, ?_⟩
    have z := k H' eH
    have hn : ns.find? f = none := by
      rw [List.find?_eq_none]
      intro x hx
      rw [hno x (by rw [List.take_length]; exact hx)]
      exact Bool.false_ne_true
    rw [hn] at z
    exact z
theorem et_isN {σ : L2.St} {H : Hp} {ta : TE} {v : V} {b : Bool} (h : Ev ta σ H v) (e : decide (v = .non) = b) : EvT (tTest (tOp (fun x y H Q => y = V.non ∧ Q (V.bl (decide (x = V.non))) H) ta (tC .non))) σ H b := fun H1 e1 Q q =>
  h H1 e1 _ fun H2 e2 => ⟨rfl, b, by rw [e], q H2 e2⟩
theorem q_par3 {σ : L2.St} {H : Hp} {tr : TA} {tz : TS} {D : Ends} {i j l : Nat} (k : tr σ H fun vs H1 => ∃ u v w, vs = [u, v, w] ∧ tz D (((σ.set i (some u)).set j (some v)).set l (some w)) H1) : tSeq (tPar3 i j l tr) tz D σ H := k
theorem q_asgQ {σ : L2.St} {H : Hp} {te : TE} {tz : TS} {D : Ends} {i : Nat} (k : te σ H fun v H1 => tz D (σ.set i (some v)) H1) : tSeq (tAsg te (gName i)) tz D σ H := k
theorem tc_cons {σ : L2.St} {H : Hp} {ta : TE} {tr : TA} {Q : List V → Hp → Prop} (h : ta σ H fun x H1 => tr σ H1 fun xs H2 => Q (x :: xs) H2) : tCons ta tr σ H Q := h
def frameF (rows : List Int) (n : Nat) : Nat → List Int → List (Int × Int) → List Int → Option (List (Int × Int) × List Int)
  | 0, _, _, _ => none
  | m + 1, left, ps, rs => match left with
    | [] => some (ps, rs)
    | one :: left => match left.find? (oddly rows n one) with
      | none => frameF rows n m left ps (rs ++ [one])
      | some other => frameF rows n m ((left.erase other).map fun x => clearedF rows n x one other) (ps ++ [(one, other)]) rs
def bitsI (n : Nat) : List Int := (List.range n).map fun i : Nat => (2 : Int) ^ i
def prD (p : Int × Int) : PyData := .tuple [.int p.1, .int p.2]
/-- a pair of lists: pairs of ints, ints -/
def IsFr (K : PySem.W.Frag) (H : Hp) (v : V) (ps : List (Int × Int)) (rs : List Int) : Prop := ∃ T pl rl vps, v = .ref T ∧ H T = some (.tup [.ref pl, .ref rl]) ∧ H pl = some (.lst vps) ∧ Rps K H vps (ps.map prD) ∧ H rl = some (.lst (rs.map V.int))
def spFrame (K : PySem.W.Frag) : Sp := fun vs H Q _ => ∃ a u rows ps rs, vs = [.ref a] ∧ IsCr K H a u rows ∧ GxR.TabG H (tTab K) ∧ frameF rows u.length 100 (bitsI u.length) [] [] = some (ps, rs) ∧ ∀ v H', ExT (tTab K) H H' → IsFr K H' v ps rs → Q v H'
theorem sc_Crossings_frame : FnScope ["self", "left", "pairs", "rest", "other", "one", "at", "some"] ["self"] (defScope (mF "Crossings" "frame" "Crossings.frame" 33 6).st) := ⟨rfl, rfl, rfl, by decide +kernel, rfl, by decide +kernel, by decide +kernel⟩
theorem c_Crossings_frame {P : Program} {w : World} {K : PySem.W.Frag} {mg : Str → Option Value} {base : Heap} (W : W0 K mg base) : Cal P w K mg base 6 (mF "Crossings" "frame" "Crossings.frame" 33 6) ["self"] (spFrame K) := by
  refine Cal.ofC W 27 rfl rfl sc_Crossings_frame (fun vs H Q E h => ?len) (fun _ _ _ _ _ _ us hl => match us, hl with | [_], _ => rfl) (fun cdv A outer s H vs Q E hcode hr h => ?body)
  case len => obtain ⟨_, _, _, _, _, rfl, _⟩ := h; rfl
  have nd := sc_Crossings_frame.nd
  refine ⟨_, (pss_cons (ps_par3 (i := 1) (j := 2) (l := 3) rfl nd rfl rfl rfl (by decide) (by decide) (by decide) rfl rfl rfl (pa_cons (pe_lc (own := [("at", 6)]) (g := (gName 6)) (tt := tYes) rfl nd (pi_range1 rfl (W.f 11 rfl) (pa_cons (pe_callB (k_len K) rfl (W.f 0 rfl) bb_len (pa_cons (k_sl K (pv 0)) pa_nil)) pa_nil)) (blkOk_by (N := ["self", "left", "pairs", "rest", "other", "one", "at", "some"]) (sc := defScope (mF "Crossings" "frame" "Crossings.frame" 33 6).st) (by decide +kernel)) (fun _ _ _ _ _ => (pg_name (i := 6) nd rfl (by first | exact Or.inl rfl | exact Or.inr rfl))) (fun _ _ _ _ _ => pts_nil) (fun _ _ _ _ _ => (pe_op op_shl pe_int (pv 6)))) (pa_cons (pe_lst pa_nil) (pa_cons (pe_lst pa_nil) pa_nil))) rfl)
      (pss_cons (ps_while PassesOwn.never (pt_cmpR (k_neD K hr.units) (pv 1) (pe_lst pa_nil) (nomark _)) (pss_cons (ps_set (i := 5) nd rfl (Or.inr rfl) (k_bm K PySem.F.plainAttrs_list PySem.F.slot_list_pop PySem.F.type_list_pop mt_popAt (pv 1) (pa_cons pe_int pa_nil)))
      (pss_cons (ps_set (i := 4) nd rfl (Or.inr rfl) (pe_nextG (k := 2) (c := tCode K) (Pt := tTab K) (own := [("some", 7)]) (g := gName 7) rfl (hr.mono (by decide)) rfl (W.f 18 rfl) W.tab hcode nd (blkOk_by (N := ["self", "left", "pairs", "rest", "other", "one", "at", "some"]) (sc := defScope (mF "Crossings" "frame" "Crossings.frame" 33 6).st) (by decide +kernel)) (by decide +kernel) rfl rfl (k_pi_list K (pv 1)) (fun A1 s1 H1 C1 cd1 fp1 hA => (pg_name (i := 7) nd rfl (by first | exact Or.inl rfl | exact Or.inr rfl))) (fun A1 s1 H1 C1 cd1 fp1 hA => (pts_one (pt_val (k_methO K (pv 0) W 4 1 rfl rfl (c_Crossings_meets_oddly W) (hA.mono (by decide)) (pa_cons (pv 5) (pa_cons (pv 7) pa_nil)))))) (fun A1 s1 H1 C1 cd1 fp1 hA => (pv 7))))
      (pss_one (ps_if (pt_cmpR op_isN (pv 4) pe_non (nomark _)) (pss_one (ps_expr (k_bm K PySem.F.plainAttrs_list PySem.F.slot_list_append PySem.F.type_list_append mt_append (pv 3) (pa_cons (pv 5) pa_nil)))) (pss_cons (ps_expr (k_bm K PySem.F.plainAttrs_list PySem.F.slot_list_remove PySem.F.type_list_remove mt_remove (pv 1) (pa_cons (pv 4) pa_nil)))
      (pss_cons (ps_expr (k_bm K PySem.F.plainAttrs_list PySem.F.slot_list_append PySem.F.type_list_append mt_append (pv 2) (pa_cons (pe_tup (pa_cons (pv 5) (pa_cons (pv 4) pa_nil))) pa_nil)))
      (pss_one (ps_setLc (own := [("some", 7)]) (g := (gName 7)) (tt := tYes) (i := 1) rfl nd rfl rfl (sw_true rfl rfl rfl (by decide +kernel)) (k_pi_list K (pv 1)) (blkOk_by (N := ["self", "left", "pairs", "rest", "other", "one", "at", "some"]) (sc := defScope (mF "Crossings" "frame" "Crossings.frame" 33 6).st) (by decide +kernel)) (fun _ _ _ _ _ => (pg_name (i := 7) nd rfl (by first | exact Or.inl rfl | exact Or.inr rfl))) (fun _ _ _ _ _ => pts_nil) (fun _ _ _ _ _ => (k_methO K (pv 0) W 7 1 rfl rfl (c_Crossings_cleared W) (hr.mono (by decide)) (pa_cons (pv 7) (pa_cons (pv 5) (pa_cons (pv 4) pa_nil))))))))))))))
      (pss_one (ps_ret (pe_tup (pa_cons (pv 2) (pa_cons (pv 3) pa_nil))))))), ?_⟩
  obtain ⟨a, u, rows, ps, rs, rfl, ho, tg, hf, q⟩ := h
  have ho' := ho
  obtain ⟨⟨n6, rl⟩, dx, vs, vu, lr, h1, s0, s1, r0, hr5⟩ := ho'
  refine q_par3 (tc_cons ?_)
  refine (edL_is (es := (bitsI u.length).map PyData.int) (edL_map (K := K) (ws := [6]) (j := 6) (fun d => match d with | .int i => .int (1 * 2 ^ i.toNat) | _ => .none) (edI_rng1 (n := (u.length : Int)) (eva_cons (ev_is (ev_lenT (ed_slot (ev_var (i := 0) rfl) h1 (W.sc 1 rfl) (W.sl 9 rfl) s0 r0)) (by rw [List.length_map])) eva_nil) (by omega)) (fun _ _ => exT) (by rw [rng_len]; omega) (fun _ => rfl) fun d x H1 e1 hm r => ?_) ?_ : EdL K _ [some (.ref a), none, none, none, none, none, none, none] H _) H (Ex.refl _) _ fun pl vs1 H1 f1 e1 hl1 r1 => ?_
  · obtain ⟨i, hi⟩ := List.mem_iff_getElem?.mp hm
    obtain ⟨hi2, rfl⟩ := rng_ix hi
    cases r
    have hi3 : i < u.length := by simpa using hi2
    refine ed_int (ev_op ev_c (ev_var rfl) (rv_I ⟨by omega, by omega, by decide⟩))
  · unfold rngD bitsI
    rw [List.map_map, List.map_map, Int.toNat_natCast]
    refine List.map_congr_left fun i _ => ?_
    show PyData.int (1 * 2 ^ ((0 : Int) + (i : Int)).toNat) = PyData.int (2 ^ i)
    rw [Int.zero_add, Int.toNat_natCast, Int.one_mul]
  have z := r1.ints
  subst z
  refine (edL_nil : EdL K (tLst tNil) _ H1 []) H1 (Ex.refl _) _ fun pp vs2 H2 f2 e2 hl2 r2 => ?_
  cases r2
  refine (edL_nil : EdL K (tLst tNil) _ H2 []) H2 (Ex.refl _) _ fun pr vs3 H3 f3 e3 hl3 r3 => ?_
  cases r3
  refine ⟨_, _, _, rfl, ?_⟩
  have g2 : H pp = none := fresh_back e1 f2
  have g3 : H pr = none := fresh_back (e1.trans e2) f3
  have n12 : pl ≠ pp := fun z => by
    subst z
    rw [hl1] at f2
    exact nomatch f2
  have n13 : pl ≠ pr := fun z => by
    subst z
    rw [e2 _ _ hl1] at f3
    exact nomatch f3
  have n23 : pp ≠ pr := fun z => by
    subst z
    rw [hl2] at f3
    exact nomatch f3
  refine q_while (fun m σ' H' => ∃ pl left ps' rs' vps y4 y5 y6 y7, σ' = [some (.ref a), some (.ref pl), some (.ref pp), some (.ref pr), y4, y5, y6, y7] ∧ ExT (tTab K) H H' ∧ H pl = none ∧ pl ≠ pp ∧ pl ≠ pr ∧ H' pl = some (.lst (left.map V.int)) ∧ H' pp = some (.lst vps) ∧ Rps K H' vps (ps'.map prD) ∧ H' pr = some (.lst (rs'.map V.int)) ∧ left.length + ps'.length + rs'.length ≤ 6 ∧ frameF rows u.length m left ps' rs' = some (ps, rs)) 100
    ⟨pl, bitsI u.length, [], [], [], none, none, none, none, rfl, .of tg ((e1.trans e2).trans e3), f1, n12, n13, e3 _ _ (e2 _ _ hl1), e3 _ _ hl2, .nil, hl3, by unfold bitsI; rw [List.length_map, List.length_range]; exact n6, hf⟩ fun m σ' H' hw => ?_
  obtain ⟨pl, left, ps', rs', vps, y4, y5, y6, y7, rfl, eH, fl, m12, m13, hl, hp, rp, hrr, hz, hfm⟩ := hw
  have lp : vps.length = ps'.length := by rw [rp.len, List.length_map]
  cases m with
  | zero => exact nomatch hfm
  | succ m =>
    unfold frameF at hfm
    refine ⟨!decide (left = []), et_test (ev_neLsL (es := ([] : List Int).map PyData.int) (ev_var rfl) (sq_of hl) (rps_ints left) edL_nil (shaped_ints left).1 (shaped_ints []).1 (eqvL_ints left [])), fun hb H4 e4 => ?_, fun hb H4 e4 => ?_⟩
    · have hne : left ≠ [] := by simpa using hb
      cases left with
      | nil => exact absurd rfl hne
      | cons one left =>
        dsimp only at hfm
        have hz : left.length + 1 + ps'.length + rs'.length ≤ 6 := hz
        refine ⟨fun σ' H' => ∃ pl left ps' rs' vps y4 y5 y6 y7, σ' = [some (.ref a), some (.ref pl), some (.ref pp), some (.ref pr), y4, y5, y6, y7] ∧ ExT (tTab K) H H' ∧ H pl = none ∧ pl ≠ pp ∧ pl ≠ pr ∧ H' pl = some (.lst (left.map V.int)) ∧ H' pp = some (.lst vps) ∧ Rps K H' vps (ps'.map prD) ∧ H' pr = some (.lst (rs'.map V.int)) ∧ left.length + ps'.length + rs'.length ≤ 6 ∧ frameF rows u.length m left ps' rs' = some (ps, rs), fun σ2 H5 z => ⟨m, Nat.lt_succ_self _, z⟩, ?_⟩
        have hl4 := e4 _ _ hl
        refine ⟨_, rfl, Or.inl ⟨rfl, _, sq_of hl4⟩, pl, _, 0, 0, .int one, rfl, rfl, hl4, by decide, by decide, ?_, rfl, ?_⟩
        · have := seqIndex_of (k := (0 : Int)) (n := ((one :: left).map V.int).length) (by omega) (by simp)
          exact this
        have e5 : ExT (tTab K) H (upd H4 pl (.lst (left.map V.int))) := (eH.ex e4).mut tg fl
        have h5l : upd H4 pl (.lst (left.map V.int)) pl = some (.lst (left.map V.int)) := upd_same
        have h5p : upd H4 pl (.lst (left.map V.int)) pp = some (.lst vps) := by rw [upd_ne (Ne.symm m12)]; exact e4 _ _ hp
        have h5r : upd H4 pl (.lst (left.map V.int)) pr = some (.lst (rs'.map V.int)) := by rw [upd_ne (Ne.symm m13)]; exact e4 _ _ hrr
        have r5 : Rps K (upd H4 pl (.lst (left.map V.int))) vps (ps'.map prD) := (rp.ex e4).up (TEx.lst hl4)
        dsimp only [gName]
        rw [show ((one :: left).map V.int).eraseIdx 0 = left.map V.int from rfl]
        generalize upd H4 pl (.lst (left.map V.int)) = H5 at e5 h5l h5p h5r r5 ⊢
        have cr5 := ho.exT e5 tg
        refine q_asgQ ?_
        refine ev_nextG (f := oddly rows u.length one) e5.tab rfl (sq_of h5l) (fun _ => rfl) (fun _ => rfl) (fun x H6 e6 => et_B (ev_oddly (ev_var rfl) (cr5.exT e6 e5.tab) (ev_var rfl) (ev_var rfl))) fun H6 e6 => ?_
        have e56 := e5.trans e6
        have h6l := e6.go e5.tab h5l fun _ q => nomatch q
        have h6p := e6.go e5.tab h5p fun _ q => nomatch q
        have h6r := e6.go e5.tab h5r fun _ q => nomatch q
        have r6 := r5.up (e6.tex e5.tab)
        cases hfd : left.find? (oddly rows u.length one) with
        | none =>
          rw [hfd] at hfm
          dsimp only
          refine s_if (b := true) (et_isN (v := .non) (ev_var rfl) (by rfl)) (fun _ H7 e7 => ?_) (fun z => nomatch z)
          refine s_app (e7 _ _ h6r) (ev_var rfl) (ev_var rfl) (by rw [List.length_map]; omega) fun H8 e8 => ?_
          have e78 := e7.trans e8
          refine ⟨pl, left, ps', rs' ++ [one], vps, _, _, _, _, rfl, (e56.ex e78).mut tg g3, fl, m12, m13, by rw [upd_ne m13]; exact e78 _ _ h6l, by rw [upd_ne n23]; exact e78 _ _ h6p, (r6.ex e78).up (TEx.lst (e78 _ _ h6r)), by rw [upd_same, List.map_append] <;> rfl, by rw [List.length_append, List.length_singleton]; omega, hfm⟩
        | some other =>
          rw [hfd] at hfm
          dsimp only
          have hmem := List.mem_of_find?_eq_some hfd
          refine s_if (b := false) (et_isN (v := .int other) (ev_var rfl) (by rfl)) (fun z => nomatch z) (fun _ H7 e7 => ?_)
          have h7l := e7 _ _ h6l
          refine ⟨_, rfl, Or.inl ⟨rfl, _, sq_of h7l⟩, _, rfl, pl, left, other, left.idxOf other, rfl, rfl, h7l, ?_, ?_, ?_⟩
          · rw [List.getElem?_eq_getElem (List.idxOf_lt_length_iff.mpr hmem), List.getElem_idxOf]
          · intro j hj hje
            have h0 := List.not_of_lt_findIdx (p := (· == other)) (xs := left) (i := j) hj
            obtain ⟨hj2, hje⟩ := List.getElem?_eq_some_iff.mp hje
            rw [hje] at h0
            simp at h0
          have he : left.eraseIdx (left.idxOf other) = left.erase other := (List.erase_eq_eraseIdx_of_idxOf (by rfl)).symm
          rw [he]
          have zl : (left.erase other).length = left.length - 1 := List.length_erase_of_mem hmem
          have zl0 : 0 < left.length := List.length_pos_of_mem hmem
          have e8 : ExT (tTab K) H (upd H7 pl (.lst ((left.erase other).map V.int))) := (e56.ex e7).mut tg fl
          have h8l : upd H7 pl (.lst ((left.erase other).map V.int)) pl = some (.lst ((left.erase other).map V.int)) := upd_same
          have h8p : upd H7 pl (.lst ((left.erase other).map V.int)) pp = some (.lst vps) := by rw [upd_ne (Ne.symm m12)]; exact e7 _ _ h6p
          have h8r : upd H7 pl (.lst ((left.erase other).map V.int)) pr = some (.lst (rs'.map V.int)) := by rw [upd_ne (Ne.symm m13)]; exact e7 _ _ h6r
          have r8 : Rps K (upd H7 pl (.lst ((left.erase other).map V.int))) vps (ps'.map prD) := (r6.ex e7).up (TEx.lst h7l)
          dsimp only
          generalize upd H7 pl (.lst ((left.erase other).map V.int)) = H8 at e8 h8l h8p h8r r8 ⊢
          refine q_appD h8p (ev_var rfl) (ed_tup (ds := [.int one, .int other]) (eds_cons (ed_int (ev_var rfl)) (eds_cons (ed_int (ev_var rfl)) eds_nil)) (by show 2 ≤ 100000; decide)) (by omega) fun v9 H9 e9 r9 => ?_
          have e10 : ExT (tTab K) H (upd H9 pp (.lst (vps ++ [v9]))) := (e8.ex e9).mut tg g2
          have h10l : upd H9 pp (.lst (vps ++ [v9])) pl = some (.lst ((left.erase other).map V.int)) := by rw [upd_ne m12]; exact e9 _ _ h8l
          have h10p : upd H9 pp (.lst (vps ++ [v9])) pp = some (.lst (vps ++ [v9])) := upd_same
          have h10r : upd H9 pp (.lst (vps ++ [v9])) pr = some (.lst (rs'.map V.int)) := by rw [upd_ne (Ne.symm n23)]; exact e9 _ _ h8r
          have t10 : TEx H9 (upd H9 pp (.lst (vps ++ [v9]))) := TEx.lst (e9 _ _ h8p)
          have r10 : Rps K (upd H9 pp (.lst (vps ++ [v9]))) (vps ++ [v9]) ((ps' ++ [(one, other)]).map prD) := by
            rw [List.map_append]
            exact ((r8.ex e9).up t10).app (.cons (r9.up t10) .nil)
          generalize upd H9 pp (.lst (vps ++ [v9])) = H10 at e10 h10l h10p h10r r10 t10 ⊢
          have cr10 := ho.exT e10 tg
          refine s_asgM (K := K) (ds := ((left.erase other).map fun x => clearedF rows u.length x one other).map PyData.int) (edL_is (edL_map (K := K) (ws := [7]) (j := 7) (fun d => match d with | .int x => .int (clearedF rows u.length x one other) | _ => .none) (edI_list (ev_var rfl) (sq_of h10l) (rps_ints _)) (fun _ _ e => e) (by rw [List.length_map]; omega) (fun _ => rfl) fun d x H11 e11 hm r => ?_) ?_) fun pn vsn H11 f11 e11 h11 r11 => ?_
          · obtain ⟨k, _, rfl⟩ := List.mem_map.mp hm
            cases r
            refine ed_int fun H12 e12 Q12 q12 => ?_
            have cr12 := cr10.ex (e11.trans e12)
            obtain ⟨dx2, vs2, hs2⟩ := cr12.slt
            exact ⟨.ref a, rfl, a, dx2, vs2, rfl, hs2, _, rfl, _, rfl, _, rfl, a, u, rows, k, one, other, rfl, cr12, fun H13 e13 => q12 H13 e13⟩
          · rw [List.map_map, List.map_map]
            rfl
          · have z := r11.ints
            subst z
            refine ⟨pn, _, ps' ++ [(one, other)], rs', vps ++ [v9], _, _, _, _, rfl, e10.ex e11, e10.fresh f11, ?_, ?_, h11, e11 _ _ h10p, r10.ex e11, e11 _ _ h10r, ?_, hfm⟩
            · rintro rfl
              rw [h10p] at f11
              exact nomatch f11
            · rintro rfl
              rw [h10r] at f11
              exact nomatch f11
            · rw [List.length_map, List.length_append, List.length_singleton]
              omega
    · have hnil : left = [] := by simpa using hb
      subst hnil
      cases hfm
      refine s_retU (eu_tup (eva_cons (ev_var rfl) (eva_cons (ev_var rfl) eva_nil)) (by show 2 ≤ 100000; decide)) fun T H5 f5 e5 h5 => ?_
      have e45 := e4.trans e5
      exact q _ _ (eH.ex e45) ⟨T, pp, pr, vps, rfl, h5, e45 _ _ hp, rp.ex e45, e45 _ _ hrr⟩
end PR
end
section
set_option Elab.async false
set_option linter.all false
set_option maxRecDepth 100000
set_option maxHeartbeats 4000000
/-! Parity, marks. -/
namespace PR
open PySem PySem.Spec PyProof.Rows L2 Evl
def parF (rows : List Int) (n : Nat) (ps : List (Int × Int)) (rs : List Int) : Int :=
  if rs.any (isOddF rows n) then 0 else if (ps.filter fun p => isOddF rows n p.1 && isOddF rows n p.2).length % 2 = 0 then 1 else -1
def parP (u l : List Str) : Option Int := (frameF (rowsF u l) u.length 100 (bitsI u.length) [] []).map fun r => parF (rowsF u l) u.length r.1 r.2
def spPar (K : PySem.W.Frag) : Sp := fun vs H Q _ => ∃ a u l i, vs = [.ref a] ∧ IsOrd K H a u l ∧ GxR.TabG H (tTab K) ∧ parP u l = some i ∧ ∀ H', ExT (tTab K) H H' → Q (.int i) H'
theorem frameF_len {rows : List Int} {n : Nat} {ps : List (Int × Int)} {rs : List Int} {left : List Int} (h : frameF rows n 100 left [] [] = some (ps, rs)) : ps.length ≤ 100 ∧ rs.length ≤ 100 := by
  have key : ∀ (m : Nat) (left : List Int) (p : List (Int × Int)) (r : List Int), frameF rows n m left p r = some (ps, rs) → ps.length ≤ p.length + m ∧ rs.length ≤ r.length + m := by
    intro m
    induction m with
    | zero => intro left p r h; exact nomatch h
    | succ m ih =>
      intro left p r h
      unfold frameF at h
      cases left with
      | nil =>
        cases h
        exact ⟨by omega, by omega⟩
      | cons one left =>
        dsimp only at h
        split at h
        · have := ih _ _ _ h
          rw [List.length_append, List.length_singleton] at this
          omega
        · have := ih _ _ _ h
          rw [List.length_append, List.length_singleton] at this
          omega
  have := key 100 left [] [] h
  simpa using this
theorem q_newCr {K : PySem.W.Frag} {σ : L2.St} {H : Hp} {ta : TE} {ao : Addr} {u l : List Str} {Q : VK} (ha : Ev ta σ H (.ref ao)) (ho : IsOrd K H ao u l) (k : ∀ x H', Ex H H' → IsCr K H' x u (rowsF u l) → Q (.ref x) H') : tMake (He.ga K "Crossings") (spCrInit K) [] E0 (tCons ta tNil) σ H Q :=
  ha H (Ex.refl _) _ fun H1 e1 x dx hx hd hn => by
    have kx : ∀ {H'}, Kx x dx (upd (upd H1 dx (.own x)) x (.ins (He.ga K "Crossings") dx [])) H' → Ex H1 H' := fun {H'} kk a o h => by
      have n1 : a ≠ x := ne_of_none h hx
      have n2 : a ≠ dx := ne_of_none h hd
      refine kk a o n1 n2 ?_
      rw [upd_ne n1, upd_ne n2]
      exact h
    refine ⟨x, dx, ao, u, l, rfl, ⟨.inl ⟨upd_same, rfl⟩, .inl (by rw [upd_ne hn, upd_same]), hn⟩, fun H' kk => ho.ex (e1.trans (kx kk)), fun H' kk cr => ⟨rfl, k x H' (e1.trans (kx kk)) cr⟩⟩
theorem ed_odd {K : PySem.W.Frag} {σ : L2.St} {H : Hp} {ta tb : TE} {a : Addr} {u : List Str} {rows : List Int} {m : Int} (ha : Ev ta σ H (.ref a)) (ho : IsCr K H a u rows) (hb : Ev tb σ H (.int m)) : Ed K (SlX.tMethSl (He.ga K "Crossings") (spOddOne K) E0 ta (tCons tb tNil)) σ H (.bool (isOddF rows u.length m)) := ed_bl (ev_isOdd ha ho hb)
def odD (rows : List Int) (n : Nat) : PyData → PyData
  | .int i => .bool (isOddF rows n i)
  | _ => .none
def bothD (rows : List Int) (n : Nat) : PyData → Bool
  | .tuple [.int i, .int j] => isOddF rows n i && isOddF rows n j
  | _ => false
theorem sc_parity_of : FnScope ["order", "crossings", "pairs", "rest", "odd", "one", "other", "some"] ["order"] (defScope (gF "parity_of" 34).st) := ⟨rfl, rfl, rfl, by decide +kernel, rfl, by decide +kernel, by decide +kernel⟩
theorem c_parity_of {P : Program} {w : World} {K : PySem.W.Frag} {mg : Str → Option Value} {base : Heap} (W : W0 K mg base) : Cal P w K mg base 7 (gF "parity_of" 34) ["order"] (spPar K) := by
  refine Cal.of W 29 rfl sc_parity_of (fun vs H Q E h => ?len) (fun _ _ _ _ _ _ us hl => match us, hl with | [_], _ => rfl) (fun cdv A outer s H vs Q E hr h => ?body)
  case len => obtain ⟨_, _, _, _, rfl, _⟩ := h; rfl
  have nd := sc_parity_of.nd
  refine ⟨_, (pss_cons (ps_set (i := 1) nd rfl (Or.inr rfl) (k_new K (c_Crossings___init__ W) W 1 rfl (hr.mono (by decide)) rfl (W.g 17 rfl) (pa_cons (pv 0) pa_nil)))
      (pss_cons (ps_asg (k_methO0 K (pv 1) W 6 1 rfl rfl (c_Crossings_frame W) (hr.mono (by decide))) (pg_tup rfl (pgs_cons (pg_name (i := 2) nd rfl (Or.inl rfl)) (pgs_cons (pg_name (i := 3) nd rfl (Or.inl rfl)) pgs_nil))))
      (pss_cons (ps_if (pt_val (pe_callB (k_any K rfl) rfl (W.f 7 rfl) bb_any (pa_cons (pe_lc (own := [("some", 7)]) (g := (gName 7)) (tt := tYes) rfl nd (k_pi_list K (pv 3)) (blkOk_by (N := ["order", "crossings", "pairs", "rest", "odd", "one", "other", "some"]) (sc := defScope (gF "parity_of" 34).st) (by decide +kernel)) (fun _ _ _ _ _ => (pg_name (i := 7) nd rfl (by first | exact Or.inl rfl | exact Or.inr rfl))) (fun _ _ _ _ _ => pts_nil) (fun _ _ _ _ _ => (k_methO K (pv 1) W 5 1 rfl rfl (c_Crossings_is_odd W) (hr.mono (by decide)) (pa_cons (pv 7) pa_nil)))) pa_nil))) (pss_one (ps_ret pe_int)) pss_nil)
      (pss_cons (ps_setLc (own := [("one", 5), ("other", 6)]) (g := (gTup K 2 (gCons (gName 5) (gCons (gName 6) gNil)))) (i := 4) rfl nd rfl rfl (sw_true rfl rfl rfl (by decide +kernel)) (k_pi_list K (pv 2)) (blkOk_by (N := ["order", "crossings", "pairs", "rest", "odd", "one", "other", "some"]) (sc := defScope (gF "parity_of" 34).st) (by decide +kernel)) (fun _ _ _ _ _ => (pg_tup rfl (pgs_cons (pg_name (i := 5) nd rfl (by first | exact Or.inl rfl | exact Or.inr rfl)) (pgs_cons (pg_name (i := 6) nd rfl (by first | exact Or.inl rfl | exact Or.inr rfl)) pgs_nil)))) (fun _ _ _ _ _ => (pts_one (PW.pt (pw_and (pt_val (k_methO K (pv 1) W 5 1 rfl rfl (c_Crossings_is_odd W) (hr.mono (by decide)) (pa_cons (pv 5) pa_nil))) (pw_and1 (pt_val (k_methO K (pv 1) W 5 1 rfl rfl (c_Crossings_is_odd W) (hr.mono (by decide)) (pa_cons (pv 6) pa_nil)))))))) (fun _ _ _ _ _ => pe_int))
      (pss_one (ps_ret (pe_ifExp (pt_cmpR op_eq (pe_op op_mod (pe_callB (k_len K) rfl (W.f 0 rfl) bb_len (pa_cons (pv 4) pa_nil)) pe_int) pe_int (nomark _)) pe_int (pe_un un_neg pe_int)))))))), ?_⟩
  obtain ⟨a, u, l, i, rfl, ho, tg, hp, q⟩ := h
  unfold parP at hp
  obtain ⟨⟨ps, rs⟩, hf, rfl⟩ := Option.map_eq_some_iff.mp hp
  refine q_asgQ (q_newCr (ev_var rfl) ho fun x H1 e1 cr => ?_)
  have n6 := cr.1.1
  obtain ⟨dx, vs, hs⟩ := cr.slt
  have tg1 : GxR.TabG H1 (tTab K) := (ExT.of tg e1).tab
  have x1 : ExT (tTab K) H H1 := .of tg e1
  refine ⟨.ref x, rfl, x, dx, vs, rfl, hs, x, u, _, ps, rs, rfl, cr, tg1, hf, fun v H2 e2 fr => ?_⟩
  obtain ⟨T, pl, rl, vps, rfl, hT, hpl, rp, hrl⟩ := fr
  have x2 := x1.trans e2
  have cr2 := cr.exT e2 tg1
  have lrs : ps.length ≤ 100 ∧ rs.length ≤ 100 := frameF_len hf
  refine ⟨T, _, rfl, SqT.of hT, rfl, _, _, rfl, _, _, rfl, rfl, ?_⟩
  refine q_when (b := rs.any (isOddF (rowsF u l) u.length)) (et_B (ev_any (bs := rs.map (isOddF (rowsF u l) u.length)) (edL_is (edL_map (K := K) (ws := [7]) (j := 7) (odD (rowsF u l) u.length) (edI_list (ev_var rfl) (sq_of hrl) (rps_ints rs)) (fun _ _ e => e) (by rw [List.length_map]; omega) (fun _ => rfl) fun d y H3 e3 hm r => ?_) ?_) ?_)) (fun hb H3 e3 => ?_) (fun hb H3 e3 => ?_)
  · obtain ⟨k, _, rfl⟩ := List.mem_map.mp hm
    cases r
    exact ed_odd (ev_var rfl) (cr2.ex e3) (ev_var rfl)
  · rw [List.map_map, List.map_map]
    rfl
  · rw [List.any_map]
    rfl
  · refine s_ret (v := .int 0) ev_c fun H4 e4 => ?_
    have z := q H4 (x2.ex (e3.trans e4))
    unfold parF at z
    dsimp only at z
    rw [if_pos hb] at z
    exact z
  · have rp3 := rp.ex e3
    have cr3 := cr2.ex e3
    refine q_asgM (K := K) (ds := ((ps.map prD).filter (bothD (rowsF u l) u.length)).map fun _ => .int 1) (edL_flt2 (K := K) (ws := [5, 6]) (j := 5) (k := 6) (bothD (rowsF u l) u.length) (fun _ => .int 1) (edI_list (ev_var rfl) (sq_of (e3 _ _ hpl)) rp3) (fun _ _ e => e) (by rw [List.length_map]; omega) (fun _ _ => rfl) (fun d hd => by
      obtain ⟨p, _, rfl⟩ := List.mem_map.mp hd
      exact ⟨_, _, rfl⟩) fun b c y z H4 e4 hm r1 r2 => ?_) fun pn vn H4 f4 e4 h4 r4 => ?_
    · obtain ⟨p, _, hpe⟩ := List.mem_map.mp hm
      cases hpe
      cases r1
      cases r2
      have cr4 := cr3.ex e4
      exact ⟨et_and (et_B (ev_isOdd (ev_var rfl) cr4 (ev_var rfl))) fun _ => et_B (ev_isOdd (ev_var rfl) cr4 (ev_var rfl)), fun _ => ed_int ev_c⟩
    · have ln : vn.length = (ps.filter fun p => isOddF (rowsF u l) u.length p.1 && isOddF (rowsF u l) u.length p.2).length := by
        rw [r4.len, List.length_map, List.filter_map, List.length_map]
        rfl
      have e34 := e3.trans e4
      have fin : ∀ H5, Ex H4 H5 → Q (.int (if (ps.filter fun p => isOddF (rowsF u l) u.length p.1 && isOddF (rowsF u l) u.length p.2).length % 2 = 0 then 1 else -1)) H5 := fun H5 e5 => by
        have z := q H5 (x2.ex (e34.trans e5))
        unfold parF at z
        dsimp only at z
        rw [if_neg (by rw [hb]; exact Bool.false_ne_true)] at z
        exact z
      refine s_ret (v := .int (if (ps.filter fun p => isOddF (rowsF u l) u.length p.1 && isOddF (rowsF u l) u.length p.2).length % 2 = 0 then 1 else -1)) (ev_if (b := decide ((ps.filter fun p => isOddF (rowsF u l) u.length p.1 && isOddF (rowsF u l) u.length p.2).length % 2 = 0)) (et_is (et_test (ev_op (ev_op (ev_is (ev_len (ev_var rfl) (sq_of h4)) (by rw [ln])) ev_c (rv_I (by decide))) ev_c (rv_eq rfl))) ?_) (fun hd => ?_) fun hd => ?_) fin
      · rw [Bool.eq_iff_iff]
        simp
        omega
      · rw [if_pos (of_decide_eq_true hd)]
        exact ev_c
      · rw [if_neg (of_decide_eq_false hd)]
        exact ev_un ev_c ru_neg
def angP (u l : List Str) : Option (List Int) := (cornersF (walkI u l) (List.range (walkI u l).length) [] []).bind fun cs => if cs.all (fun c => decide (c.length ≤ 1000)) && decide (cs.length ≤ 1000) && decide (cs ≠ []) then some (cs.map fun c => ((angleN c u.length : Nat) : Int)) else none
def marksP (u l : List Str) : Option (List Int × Int × Int) := (angP u l).bind fun an => (parP u l).map fun p => (sortI an, an.headD 0, p)
def mkD (m : List Int × Int × Int) : PyData := .tuple [tI m.1, .int m.2.1, .int m.2.2]
def spMarks (K : PySem.W.Frag) : Sp := fun vs H Q _ => ∃ a u l m, vs = [.ref a] ∧ IsOrd K H a u l ∧ GxR.TabG H (tTab K) ∧ marksP u l = some m ∧ ∀ v H', ExT (tTab K) H H' → Rp K H' v (mkD m) → Q v H'
theorem angP_some {u l : List Str} {an : List Int} (h : angP u l = some an) : ∃ cs, cornersF (walkI u l) (List.range (walkI u l).length) [] [] = some cs ∧ (∀ c ∈ cs, c.length ≤ 1000) ∧ cs.length ≤ 1000 ∧ cs ≠ [] ∧ an = cs.map fun c => ((angleN c u.length : Nat) : Int) := by
  unfold angP at h
  obtain ⟨cs, h1, h2⟩ := Option.bind_eq_some_iff.mp h
  split at h2
  · rename_i hb
    simp only [Bool.and_eq_true, List.all_eq_true, decide_eq_true_eq] at hb
    cases h2
    exact ⟨cs, h1, hb.1.1, hb.1.2, hb.2, rfl⟩
  · exact nomatch h2
theorem sc_marks_of : FnScope ["order", "told"] ["order"] (defScope (gF "marks_of" 35).st) := ⟨rfl, rfl, rfl, by decide +kernel, rfl, by decide +kernel, by decide +kernel⟩
theorem c_marks_of {P : Program} {w : World} {K : PySem.W.Frag} {mg : Str → Option Value} {base : Heap} (W : W0 K mg base) : Cal P w K mg base 8 (gF "marks_of" 35) ["order"] (spMarks K) := by
  refine Cal.of W 30 rfl sc_marks_of (fun vs H Q E h => ?len) (fun _ _ _ _ _ _ us hl => match us, hl with | [_], _ => rfl) (fun cdv A outer s H vs Q E hr h => ?body)
  case len => obtain ⟨_, _, _, _, rfl, _⟩ := h; rfl
  have nd := sc_marks_of.nd
  refine ⟨_, (pss_cons (ps_set (i := 1) nd rfl (Or.inl rfl) (k_cal K (c_angles_of W) (hr.mono (by decide)) rfl (W.g 16 rfl) (pa_cons (pv 0) pa_nil)))
      (pss_one (ps_ret (pe_tup (pa_cons (pe_callTy (k_tuple K) rfl (W.f 2 rfl) bb_tuple (pa_cons (pe_callB (k_sort K rfl hr.units) rfl (W.f 8 rfl) bb_sorted (pa_cons (pv 1) pa_nil)) pa_nil)) (pa_cons (pe_ix (k_ixL K) (pv 1) pe_int (fun _ _ => rfl)) (pa_cons (k_cal K (c_parity_of W) (hr.mono (by decide)) rfl (W.g 18 rfl) (pa_cons (pv 0) pa_nil)) pa_nil))))))), ?_⟩
  obtain ⟨a, u, l, m, rfl, ho, tg, hm, q⟩ := h
  unfold marksP at hm
  obtain ⟨an, ha, hm⟩ := Option.bind_eq_some_iff.mp hm
  obtain ⟨p, hp, rfl⟩ := Option.map_eq_some_iff.mp hm
  obtain ⟨cs, hcs, hl, hz, hne, rfl⟩ := angP_some ha
  refine q_asgQ ⟨_, rfl, a, u, l, cs, rfl, ho, hcs, hl, hz, fun pt H1 f1 e1 h1 => ?_⟩
  have h1' : H1 pt = some (.lst ((cs.map fun c => ((angleN c u.length : Nat) : Int)).map V.int)) := by rw [List.map_map]; exact h1
  generalize han : (cs.map fun c => ((angleN c u.length : Nat) : Int)) = an at h1' ha q
  have al : an.length = cs.length := by rw [← han, List.length_map]
  have hne : an ≠ [] := by
    rintro rfl
    rw [List.length_nil] at al
    exact hne (List.length_eq_zero_iff.mp al.symm)
  have x1 : ExT (tTab K) H H1 := .of tg e1
  refine (ed_is (ed_tupL (edL_sortLs (ev_var (i := 1) rfl) (sq_of h1') (rps_ints an) (sortOk_ints (by omega)))) (by rw [sortD_ints]) : Ed K (tCB (rTupS K) (tCons (tCB (rSortD K) (tCons (tVar 1) tNil)) tNil)) [some (.ref a), some (.ref pt)] H1 (tI (sortI an))) H1 (Ex.refl _) _ fun v2 H2 e2 r2 => ?_
  cases an with
  | nil => exact absurd rfl hne
  | cons k0 an =>
    refine (ev_op (ev_var (i := 1) rfl) ev_c (rv_ixL (sq_of (e2 _ _ h1')) (atI_nat (xs := (k0 :: an).map V.int) (j := 0) rfl)) : Ev (tOp (rIxL K) (tVar 1) (tC (.int 0))) [some (.ref a), some (.ref pt)] H2 (.int k0)) H2 (Ex.refl _) _ fun H3 e3 => ?_
    have e13 := e2.trans e3
    have x3 := x1.ex e13
    refine ⟨_, rfl, a, u, l, p, rfl, ho.exT x3 tg, x3.tab, hp, fun H4 e4 => ?_⟩
    refine ⟨sz_of (by show 3 ≤ 100000; decide), fun T hT => q _ _ ((x3.trans e4).ex (Ex.new hT)) ?_⟩
    refine .tup (SqT.of upd_same) (.cons ?_ (.cons (.int _) (.cons (.int _) .nil)))
    exact ((r2.ex e3).up (e4.tex x3.tab)).ex (Ex.new hT)
theorem sc_marks : FnScope ["order"] ["order"] (defScope (gF "marks" 36).st) := ⟨rfl, rfl, rfl, by decide +kernel, rfl, by decide +kernel, by decide +kernel⟩
theorem c_marks {P : Program} {w : World} {K : PySem.W.Frag} {mg : Str → Option Value} {base : Heap} (W : W0 K mg base) : Cal P w K mg base 9 (gF "marks" 36) ["order"] (spMarks K) := by
  refine Cal.of W 31 rfl sc_marks (fun vs H Q E h => ?len) (fun _ _ _ _ _ _ us hl => match us, hl with | [_], _ => rfl) (fun cdv A outer s H vs Q E hr h => ?body)
  case len => obtain ⟨_, _, _, _, rfl, _⟩ := h; rfl
  have nd := sc_marks.nd
  refine ⟨_, (pss_cons (ps_expr (k_cal K (c_require_order W) (hr.mono (by decide)) rfl (W.g 9 rfl) (pa_cons (pv 0) pa_nil)))
      (pss_one (ps_ret (k_cal K (c_marks_of W) (hr.mono (by decide)) rfl (W.g 19 rfl) (pa_cons (pv 0) pa_nil))))), ?_⟩
  obtain ⟨a, u, l, m, rfl, ho, tg, hm, q⟩ := h
  refine q_drop (v := .non) (ev_non (ed_callO (ev_var rfl) ho trivial)) fun H1 e1 => ?_
  have x1 : ExT (tTab K) H H1 := .of tg e1
  exact ⟨_, rfl, a, u, l, m, rfl, ho.ex e1, x1.tab, hm, fun v H2 e2 r => q v H2 (x1.trans e2) r⟩
def spAlike (K : PySem.W.Frag) : Sp := fun vs H Q _ => ∃ a b u l u' l' m m', vs = [.ref a, .ref b] ∧ IsOrd K H a u l ∧ IsOrd K H b u' l' ∧ GxR.TabG H (tTab K) ∧ marksP u l = some m ∧ marksP u' l' = some m' ∧ u.length = u'.length ∧ ∀ H', ExT (tTab K) H H' → Q (.bl (decide (m = m'))) H'
theorem shaped_mk (m : List Int × Int × Int) : SeqAt.shaped (mkD m) = true := (shaped_of_all (k := 1) (ds := [tI m.1, .int m.2.1, .int m.2.2]) (fun d hd => by
  simp only [List.mem_cons, List.not_mem_nil, or_false] at hd
  rcases hd with rfl | rfl | rfl
  · exact lay_tI _
  · exact ⟨rfl, Nat.zero_le _⟩
  · exact ⟨rfl, Nat.zero_le _⟩) (by decide)).2
theorem eqv_mk (m m' : List Int × Int × Int) : PyData.eqv (mkD m) (mkD m') = decide (m = m') := by
  obtain ⟨a, b, c⟩ := m
  obtain ⟨a', b', c'⟩ := m'
  unfold mkD
  simp only [PyData.eqv, PyData.eqvAll, eqv_ints, eqvAll_ints]
  rw [Bool.eq_iff_iff]
  simp
theorem sc_are_marked_alike : FnScope ["one", "other"] ["one", "other"] (defScope (gF "are_marked_alike" 37).st) := ⟨rfl, rfl, rfl, by decide +kernel, rfl, by decide +kernel, by decide +kernel⟩
theorem c_are_marked_alike {P : Program} {w : World} {K : PySem.W.Frag} {mg : Str → Option Value} {base : Heap} (W : W0 K mg base) : Cal P w K mg base 9 (gF "are_marked_alike" 37) ["one", "other"] (spAlike K) := by
  refine Cal.of W 32 rfl sc_are_marked_alike (fun vs H Q E h => ?len) (fun _ _ _ _ _ _ us hl => match us, hl with | [_, _], _ => rfl) (fun cdv A outer s H vs Q E hr h => ?body)
  case len => obtain ⟨_, _, _, _, _, _, _, _, rfl, _⟩ := h; rfl
  have nd := sc_are_marked_alike.nd
  refine ⟨_, (pss_cons (ps_expr (k_cal K (c_require_order W) (hr.mono (by decide)) rfl (W.g 9 rfl) (pa_cons (pv 0) pa_nil)))
      (pss_cons (ps_expr (k_cal K (c_require_order W) (hr.mono (by decide)) rfl (W.g 9 rfl) (pa_cons (pv 1) pa_nil)))
      (pss_one (ps_ret (pe_and (pe_cmpR op_eq (pe_callB (k_len K) rfl (W.f 0 rfl) bb_len (pa_cons (k_prop K (pv 0) W 0 rfl (c_Order_above W) (hr.mono (by decide))) pa_nil)) (pe_callB (k_len K) rfl (W.f 0 rfl) bb_len (pa_cons (k_prop K (pv 1) W 0 rfl (c_Order_above W) (hr.mono (by decide))) pa_nil)) (nomark _)) (pe_one (pe_cmpR (k_eqD K hr.units) (k_cal K (c_marks_of W) (hr.mono (by decide)) rfl (W.g 19 rfl) (pa_cons (pv 0) pa_nil)) (k_cal K (c_marks_of W) (hr.mono (by decide)) rfl (W.g 19 rfl) (pa_cons (pv 1) pa_nil)) (nomark _)))))))), ?_⟩
  obtain ⟨a, b, u, l, u', l', m, m', rfl, ho, ho', tg, hm, hm', hlen, q⟩ := h
  refine q_drop (v := .non) (ev_non (ed_callO (ev_var rfl) ho trivial)) fun H1 e1 => ?_
  refine q_drop (v := .non) (ev_non (ed_callO (ev_var rfl) (ho'.ex e1) trivial)) fun H2 e2 => ?_
  have e12 := e1.trans e2
  refine (ev_is (ev_op (ev_is (ev_lenT (ed_propO (f := fun u _ => tS u) (pre := anyO) (ev_var (i := 0) rfl) (ho.ex e12) trivial)) (by rw [List.length_map])) (ev_is (ev_lenT (ed_propO (f := fun u _ => tS u) (pre := anyO) (ev_var (i := 1) rfl) (ho'.ex e12) trivial)) (by rw [List.length_map])) (rv_eq rfl)) (by rw [hlen]; simp) : Ev _ _ H2 (.bl true)) H2 (Ex.refl _) _ fun H3 e3 => ⟨true, rfl, ?_⟩
  have e13 := e12.trans e3
  have x3 : ExT (tTab K) H H3 := .of tg e13
  rw [if_pos rfl]
  refine ⟨_, rfl, a, u, l, m, rfl, ho.ex e13, x3.tab, hm, fun v H4 e4 r4 => ?_⟩
  have x4 := x3.trans e4
  refine ⟨_, rfl, b, u', l', m', rfl, ho'.exT x4 tg, x4.tab, hm', fun w' H5 e5 r5 => ?_⟩
  refine ⟨mkD m, mkD m', (r4.up (e5.tex x4.tab)).dp, r5.dp, shaped_mk m, shaped_mk m', ?_⟩
  rw [eqv_mk]
  exact q H5 (x4.trans e5)
end PR
end
section
set_option Elab.async false
set_option linter.all false
set_option maxRecDepth 100000
set_option maxHeartbeats 4000000
/-! Rows along a course. -/
namespace PR
open PySem PySem.Spec PyProof.Rows L2 Evl GenW
section
variable {X : Cx} {L : Addr}
/-- an if whose test is false -/
def tIfF2 (t : TT) : TG2 := fun D n l σ H => t σ H fun b H1 => b = false ∧ D.nx n l σ H1
theorem g2_ifF {test : Expr} {body : List Stmt} {pos : Pos} {t : TT} (hx : X.xe = fun _ _ => False) (ht : ∀ o, PT (bX X L o) test t) : GS2 X L (.If test body [] pos) (tIfF2 t) := by
  refine ⟨fun Fo A R ip n l o s₀ c fs K J gd lv s σ H D g k h0 hF I hq => ?_⟩
  show Seg _ A R _ n s₀ c ((standAt pos >>= fun _ => isTrue test X.env (eval test X.env) >>= fun b => if b = true then execs body X.env else execs [] X.env).wrap K J gd lv) fs s
  refine seg_bind_wrap (wpAny_standAt ?_)
  refine seg_bind_wrap ?_
  rw [g.over]
  refine wpAny_mono ((ht o).run _ s σ H _ I hq) (fun b s' hb => ?_) fun x s' z => ?_
  · obtain ⟨H1, I1, rfl, q⟩ := hb
    rw [if_neg Bool.false_ne_true]
    exact seg_execs_nil (k n l o s₀ s' .next h0 hF ⟨σ, H1, I1, q⟩)
  · rw [show (bX X L o).xe = fun _ _ => False from hx] at z
    exact z.elim
end
theorem g_forD {K : PySem.W.Frag} {σ : L2.St} {H : Hp} {ds : List PyData} {g : TG} {tb : TG2} {D : GE} {n : Nat} {l : V} {S : Hp → Hp → Prop} {wi : TI} (h : EdI S K wi σ H ds) (Pv : Hp → Nat → Nat → V → L2.St → Hp → Prop) (h0 : ∀ H2, Ex H H2 → Pv H2 0 n l σ H2)
    (hst : ∀ H2 i n l σ' H', Ex H H2 → i ≤ ds.length → Pv H2 i n l σ' H' → S H2 H')
    (hs : ∀ H2 i d x n l σ' H' H'', Ex H H2 → ds[i]? = some d → Pv H2 i n l σ' H' → Ex H' H'' → Rp K H'' x d → g x σ' H'' fun σ2 H3 => tb { D with nx := Pv H2 (i + 1), ct := Pv H2 (i + 1), bk := D.nx } n l σ2 H3)
    (hd : ∀ H2 n l σ' H', Ex H H2 → Pv H2 ds.length n l σ' H' → D.nx n l σ' H') : tF2 wi g tb D n l σ H :=
  h H (Ex.refl H) _ fun J G H2 e2 gs w => by
    refine ⟨fun i m n l σ' H' => m = ds.length - i ∧ i ≤ ds.length ∧ Pv H2 i n l σ' H', ⟨ds.length, by simp, Nat.zero_le _, h0 H2 e2⟩, ?_⟩
    rintro i m n l σ' H' ⟨rfl, hi, p⟩
    have qg := gs H' (hst H2 i n l σ' H' e2 hi p)
    by_cases hlt : i < ds.length
    · refine .inr ⟨w.goes i H' hlt qg, Pv H2 (i + 1), fun n' l' σ2 H3 p' => ⟨ds.length - (i + 1), by omega, rfl, hlt, p'⟩, fun x H'' y => ?_⟩
      obtain ⟨e3, d, hd', r⟩ := w.yields i H' x H'' hlt qg y
      exact hs H2 i d x n l σ' H' H'' e2 hd' p e3 r
    · have e : i = ds.length := by omega
      subst e
      exact .inl ⟨w.stops H' qg, hd H2 n l σ' H' e2 p⟩
def CalG (P : Program) (w : World) (K : PySem.W.Frag) (mg : Str → Option Value) (base : Heap) (k : Nat) (d : DfP) (ps : List Str) (sp : SpG2) : Prop :=
  ∃ fd, GFn2 P w K mg base k (d.ad K) fd ps sp ∧ Binds K fd ps [] ∧ PySem.W.keepIn K (.ref (d.ad K)) = true
theorem CalG.of {P : Program} {w : World} {K : PySem.W.Frag} {mg : Str → Option Value} {base : Heap} (W : W0 K mg base) (i : Nat) {d : DfP} {N ps : List Str} {k : Nat} {sp : SpG2} (hd : dfs[i]? = some d) (S : GScope N ps (defScope d.st)) (len : ∀ vs H l n Q, sp vs H l n Q → vs.length = ps.length)
    (bnd : ∀ (kV doc pm : Value) (an : Option Addr) (cdv ct : Value) (us : List Value), us.length = ps.length → bindArgs (PySem.W.fnOf d.nm d.ql (defArgs d.st) (defBody d.st) (defScope d.st) .none kV doc pm an cdv ct) ⟨us, []⟩ = pure (ps.zip us))
    (hbody : ∀ (cdv : Value) (A : Around) (outer : List Env) (s : Shared) (H : Hp) (vs : List V) (l : V) (n : Nat) (Q : V → Hp → Prop) (pn : List (Addr × Obj)) (L : Addr), Room k (A.deeper (envOfC d.ql (defScope d.st) s.heap.objs.size (d.ad K) cdv)) → sp vs H l n Q → FrAt (g2X P w K mg base N d.ql (defScope d.st) (d.ad K) cdv A outer s H pn) L →
      ∃ t, GSs2 (g2X P w K mg base N d.ql (defScope d.st) (d.ad K) cdv A outer s H pn) L (defBody d.st) t ∧ t { nx := fun _ l' _ H' => Q l' H', rt := fun _ l' v H' => v = .non ∧ Q l' H' } n l (start N vs) H) : CalG P w K mg base (k + 1) d ps sp := by
  obtain ⟨fd, F⟩ := W.fu d (List.mem_of_getElem? hd)
  refine ⟨fd, ?_, F.binds bnd, F.kp⟩
  obtain ⟨oc, od, kV, doc, pm, an, cdv, ct, osl, rfl, lk, hcd⟩ := F.ex
  exact gfn2_of lk hcd S len fun A outer s H vs l n Q pn L hr hsp FA => hbody cdv A outer s H vs l n Q pn L hr hsp FA
theorem g2_asg2 {X : Cx} {L : Addr} {i j k : Nat} {x y : Str} {px py pt pos : Pos} {e : Expr} {te : TE} (hx : X.xe = fun _ _ => False) (hc : X.calm = true) (hN : X.N.Nodup) (hi : X.N[i]? = some x) (hj : X.N[j]? = some y) (li : Loc X.env.scope x) (lj : Loc X.env.scope y) (he : ∀ o, PE (bX X L o) e te)
    (fi : X.fn x = true) (fj : X.fn y = true) (hs : swapsWithSole [.Tuple [.Name x px, .Name y py] k pt] e pos.line X.env = pure false) (hw : swappedStores [.Tuple [.Name x px, .Name y py] k pt] e X.env = pure none) (h1 : (assignEach [.Tuple [.Name x px, .Name y py] k pt] X.env).map (·.2) = [assign (.Tuple [.Name x px, .Name y py] k pt) X.env])
    (hq : assignEach [.Name x px, .Name y py] X.env = [(false, assign (.Name x px) X.env), (false, assign (.Name y py) X.env)]) :
    GS2 X L (.Assign [.Tuple [.Name x px, .Name y py] k pt] e pos) (tP2 (tAsg te (gTup X.K 2 (gCons (gName i) (gCons (gName j) gNil))))) :=
  g2_ps hx fun o => ps_asg (X := bX X L o) (he o) (pg_tup (X := bX X L o) hc (pgs_cons (X := bX X L o) (pg_name (X := bX X L o) hN hi li (Or.inl fi)) (pgs_cons (X := bX X L o) (pg_name (X := bX X L o) hN hj lj (Or.inl fj)) pgs_nil)) (by show (assignEach [.Name x px, .Name y py] X.env).length = 2; rw [hq]; rfl) (by show (assignEach [.Name x px, .Name y py] X.env).findIdx? (·.1) = none; rw [hq]; rfl)) hs hw h1
section
variable {σ : L2.St} {H : Hp} {te : TE} {tt : TT} {u tb : TG2} {D : GE} {n : Nat} {l : V} {g : TG} {wi : TI}
theorem q2_asgG (k : te σ H fun v H1 => g v σ H1 fun σ2 H2 => u D n l σ2 H2) : tT2 (tP2 (tAsg te g)) u D n l σ H := k
theorem q2_asg {i : Nat} (k : te σ H fun v H1 => u D n l (σ.set i (some v)) H1) : tT2 (tP2 (tAsg te (gName i))) u D n l σ H := k
theorem q2_y {m : Nat} (e : n = m + 1) (k : te σ H fun x H1 => u D m x σ H1) : tT2 (tY2 te) u D n l σ H := ⟨m, e, k⟩
theorem q2_if (k : EvT tt σ H false) (q : ∀ H1, Ex H H1 → u D n l σ H1) : tT2 (tIfF2 tt) u D n l σ H := k H (Ex.refl _) _ fun H1 e1 => ⟨rfl, q H1 e1⟩
theorem q2_for (k : tF2 wi g tb { D with nx := fun n' l' σ' H' => u D n' l' σ' H' } n l σ H) : tT2 (tF2 wi g tb) u D n l σ H := k
end
def behindF : List Str → List Str → List Bool → List Str × List Str
  | u, l, [] => (u, l)
  | u, l, k :: ks => behindF (ledF k u l).1 (ledF k u l).2 ks
def AlongOk : List Str → List Str → List Bool → Prop
  | u, l, [] => RowsOk u l
  | u, l, k :: ks => RowsOk u l ∧ u.getLastD Str.empty ≠ l.getLastD Str.empty ∧ AlongOk (ledF k u l).1 (ledF k u l).2 ks
theorem AlongOk.ok : ∀ {u l : List Str} {ks : List Bool}, AlongOk u l ks → RowsOk u l
  | _, _, [], h => h
  | _, _, _ :: _, h => h.1
def prT (p : List Str × List Str) : PyData := .tuple [tS p.1, tS p.2]
def spAlong (K : PySem.W.Frag) : SpG2 := fun vs H l n Q => ∃ x y c u lo ks, vs = [x, y, c] ∧ Rp K H x (tS u) ∧ Rp K H y (tS lo) ∧ Rp K H c (tS (ks.map kindS)) ∧ AlongOk u lo ks ∧ wholeR u lo = true ∧ n = ks.length + 1 ∧ ∀ v H', Ex H H' → Rp K H' v (prT (behindF u lo ks)) → Q v H'
theorem sc_rows_along : GScope ["upper", "lower", "course", "is_whole", "kind"] ["upper", "lower", "course"] (defScope (gF "rows_along" 48).st) := ⟨rfl, rfl, rfl, by decide +kernel, rfl, by decide +kernel, by decide +kernel⟩
theorem c_rows_along {P : Program} {w : World} {K : PySem.W.Frag} {mg : Str → Option Value} {base : Heap} (W : W0 K mg base) : CalG P w K mg base 3 (gF "rows_along" 48) ["upper", "lower", "course"] (spAlong K) := by
  refine CalG.of W 37 rfl sc_rows_along (fun vs H l n Q h => ?len) (fun _ _ _ _ _ _ us hl => match us, hl with | [_, _, _], _ => rfl) (fun cdv A outer s H vs l n Q pn Lc hr h FA => ?body)
  case len => obtain ⟨_, _, _, _, _, _, rfl, _⟩ := h; rfl
  have nd := sc_rows_along.nd
  refine ⟨_, (g2_cons (g2_ps rfl fun o => (ps_set (i := 3) nd rfl (Or.inl rfl) (k_cal K (c_are_whole_rows W) (hr.mono (by decide)) rfl (W.g 22 rfl) (pa_cons (pv 0) (pa_cons (pv 1) pa_nil)))))
      (g2_cons (g2_yield FA rfl fun o => (pe_tup (pa_cons (pv 0) (pa_cons (pv 1) pa_nil))))
      (g2_cons (g2_for rfl rfl (fun o => (k_pi_tup K (pv 2))) (fun o => (pg_name (i := 4) nd rfl (Or.inl rfl))) (g2_cons (g2_ifF rfl fun o => (pt_not (pt_val (pv 3))))
      (g2_cons (g2_asg2 (i := 0) (j := 1) rfl rfl nd rfl rfl (Or.inl rfl) (Or.inl rfl) (fun o => (k_cal K (c_led_rows W) (hr.mono (by decide)) rfl (W.g 24 rfl) (pa_cons (pv 0) (pa_cons (pv 1) (pa_cons (pv 4) pa_nil))))) rfl rfl rfl rfl rfl rfl)
      (g2_cons (g2_ps rfl fun o => (ps_set (i := 3) nd rfl (Or.inl rfl) (pe_or (pe_cmpR op_ne (pv 4) (pe_gs rfl (W.s 3 rfl)) (nomark _)) (pe_one (k_cal K (c_are_whole_rows W) (hr.mono (by decide)) rfl (W.g 22 rfl) (pa_cons (pv 0) (pa_cons (pv 1) pa_nil)))))))
      (g2_cons (g2_yield FA rfl fun o => (pe_tup (pa_cons (pv 0) (pa_cons (pv 1) pa_nil))))
      g2_nil)))))
      g2_nil))), ?_⟩
  obtain ⟨x, y, c, u, lo, ks, rfl, hx, hy, hc, ok, wh, rfl, q⟩ := h
  refine q2_asg ?_
  refine (show Ed K (tCall (spRows K fun u l => .bool (wholeR u l)) [] E0 (tCons (tVar 0) (tCons (tVar 1) tNil))) [some x, some y, some c, none, none] H (.bool (wholeR u lo)) from fun H1 e1 Q1 q1 => ⟨_, rfl, _, rfl, x, y, u, lo, rfl, hx.ex e1, hy.ex e1, ok.ok, fun v H2 e2 r => q1 v H2 e2 r⟩) H (Ex.refl _) _ fun vw H1 e1 rw1 => ?_
  rw [wh] at rw1
  cases rw1
  refine q2_y rfl ?_
  refine (ed_tup (K := K) (ds := [tS u, tS lo]) (eds_cons (ed_var (i := 0) rfl (hx.ex e1)) (eds_cons (ed_var (i := 1) rfl (hy.ex e1)) eds_nil)) (by show 2 ≤ 100000; decide) : Ed K (tTup (tCons (tVar 0) (tCons (tVar 1) tNil))) [some x, some y, some c, some (.bl true), none] H1 _) H1 (Ex.refl _) _ fun vt H2 e2 r2 => ?_
  have e12 := e1.trans e2
  refine q2_for ?_
  refine g_forD (K := K) (edI_tup (ed_var rfl (hc.ex e12))) (fun H5 i n l σ' H' => n = ks.length - i ∧ ∃ ux lx y4 u1 l1, σ' = [some ux, some lx, some c, some (.bl true), y4] ∧ Ex H H' ∧ TEx H5 H' ∧ Rp K H' ux (tS u1) ∧ Rp K H' lx (tS l1) ∧ AlongOk u1 l1 (ks.drop i) ∧ behindF u1 l1 (ks.drop i) = behindF u lo ks ∧ Rp K H' l (prT (u1, l1)))
    (fun H5 e5 => ⟨by simp, x, y, none, u, lo, rfl, e12.trans e5, TEx.refl _, hx.ex (e12.trans e5), hy.ex (e12.trans e5), ok, rfl, r2.ex e5⟩) (fun H5 i n l σ' H' _ _ pv => by obtain ⟨_, _, _, _, _, _, _, _, t, _⟩ := pv; exact t) (fun H5 i d xk n l σ' H' H'' e5 hd pv e6 rx => ?_) (fun H5 n l σ' H' e5 pv => ?_)
  · obtain ⟨rfl, ux, lx, y4, u1, l1, rfl, eH, tH, ru, rl, ak, hb, rlast⟩ := pv
    have hi : i < ks.length := by simpa using (List.getElem?_eq_some_iff.mp hd).1
    have hdk : d = .str (kindS ks[i]) := by
      rw [List.getElem?_map, List.getElem?_map, List.getElem?_eq_getElem hi] at hd
      exact (Option.some.inj hd).symm
    subst hdk
    cases rx
    rw [List.drop_eq_getElem_cons hi] at ak hb
    obtain ⟨ok1, hne, ak⟩ := ak
    refine q2_if (et_is (et_not (et_B (ev_var (i := 3) rfl))) rfl) fun H6 e7 => ?_
    have e67 := e6.trans e7
    refine q2_asgG ?_
    refine (show Ed K (tCall (spLed K) [] E0 (tCons (tVar 0) (tCons (tVar 1) (tCons (tVar 4) tNil)))) [some ux, some lx, some c, some (.bl true), some (.str (kindS ks[i]))] H6 (prT (ledF ks[i] u1 l1)) from fun H8 e8 Q1 q1 => ⟨_, rfl, _, rfl, _, rfl, ux, lx, u1, l1, ks[i], rfl, (ru.ex e67).ex e8, (rl.ex e67).ex e8, ok1, hne, fun v H2 e2 r => q1 v H2 e2 r⟩) H6 (Ex.refl _) _ fun vp H7 e8 rp => ?_
    refine g_pair rp fun v1 v2 r1 r3 => ?_
    refine q2_asg ?_
    refine (show Ev (tOrV (tOp rNe (tVar 4) (tC (.str "even"))) (tCall (spRows K fun u l => .bool (wholeR u l)) [] E0 (tCons (tVar 0) (tCons (tVar 1) tNil)))) [some v1, some v2, some c, some (.bl true), some (.str (kindS ks[i]))] H7 (.bl true) from ev_orV (a := true) (b := true) (ev_is (ev_op (ev_var (i := 4) rfl) ev_c (rv_ne rfl)) (by cases ks[i] <;> decide +kernel)) (fun z => nomatch z)) H7 (Ex.refl _) _ fun H8 e9 => ?_
    refine q2_y (m := ks.length - (i + 1)) (by omega) ?_
    refine (ed_tup (K := K) (ds := [tS (ledF ks[i] u1 l1).1, tS (ledF ks[i] u1 l1).2]) (eds_cons (ed_var (i := 0) rfl (r1.ex e9)) (eds_cons (ed_var (i := 1) rfl (r3.ex e9)) eds_nil)) (by show 2 ≤ 100000; decide) : Ed K (tTup (tCons (tVar 0) (tCons (tVar 1) tNil))) [some v1, some v2, some c, some (.bl true), some (.str (kindS ks[i]))] H8 _) H8 (Ex.refl _) _ fun vt H9 e10 r10 => ?_
    have e910 := e9.trans e10
    have eall := e67.trans (e8.trans e910)
    exact ⟨rfl, v1, v2, _, _, _, rfl, eH.trans eall, tH.trans (exT eall), r1.ex e910, r3.ex e910, ak, hb, r10⟩
  · obtain ⟨_, ux, lx, y4, u1, l1, rfl, eH, tH, ru, rl, ak, hb, rlast⟩ := pv
    rw [List.length_map, List.length_map, List.drop_of_length_le (Nat.le_refl _)] at hb
    rw [← hb] at q
    exact q l H' eH rlast
theorem q_forG {σ : L2.St} {H : Hp} {sp : SpG2} {ir jf : Nat} {t : TA} {tz : TS} {D : Ends} (h : t σ H fun vs H1 => ∃ l n, σ[jf]? = some (some l) ∧ sp vs H1 l n (fun l' H2 => ∀ y, tz D ((σ.set ir y).set jf (some l')) H2)) : tSeq (tForG sp ir jf t) tz D σ H := h
def spBehind (K : PySem.W.Frag) : Sp := fun vs H Q _ => ∃ x y c u lo ks, vs = [x, y, c] ∧ Rp K H x (tS u) ∧ Rp K H y (tS lo) ∧ Rp K H c (tS (ks.map kindS)) ∧ AlongOk u lo ks ∧ wholeR u lo = true ∧ ∀ v H', Ex H H' → Rp K H' v (prT (behindF u lo ks)) → Q v H'
theorem sc_rows_behind : FnScope ["upper", "lower", "course", "found", "rows"] ["upper", "lower", "course"] (defScope (gF "rows_behind" 49).st) := ⟨rfl, rfl, rfl, by decide +kernel, rfl, by decide +kernel, by decide +kernel⟩
theorem c_rows_behind {P : Program} {w : World} {K : PySem.W.Frag} {mg : Str → Option Value} {base : Heap} (W : W0 K mg base) : Cal P w K mg base 7 (gF "rows_behind" 49) ["upper", "lower", "course"] (spBehind K) := by
  refine Cal.of W 38 rfl sc_rows_behind (fun vs H Q E h => ?len) (fun _ _ _ _ _ _ us hl => match us, hl with | [_, _, _], _ => rfl) (fun cdv A outer s H vs Q E hr h => ?body)
  case len => obtain ⟨_, _, _, _, _, _, rfl, _⟩ := h; rfl
  have nd := sc_rows_behind.nd
  obtain ⟨fdG, FG_rows_along, BG_rows_along, KG_rows_along⟩ := c_rows_along W
  have hloc : ∀ x ∈ (["upper", "lower", "course", "found", "rows"] : List Str), (defScope (gF "rows_behind" 49).st).names.lookup x = some NameKind.local := by decide +kernel
  refine ⟨_, (pss_cons (ps_set (i := 3) nd rfl (Or.inl rfl) pe_non)
      (pss_cons (ps_forG (ir := 4) (jf := 3) FG_rows_along (hr.mono (by decide)) rfl (W.g 26 rfl) KG_rows_along BG_rows_along (pa_cons (pv 0) (pa_cons (pv 1) (pa_cons (pv 2) pa_nil))) nd rfl rfl (by decide) hloc rfl rfl rfl PassesOwn.never)
      (pss_one (ps_ret (pv 3))))), ?_⟩
  obtain ⟨x, y, c, u, lo, ks, rfl, hx, hy, hc, ok, wh, q⟩ := h
  refine q_asg (v := .non) ev_c fun H1 e1 => ?_
  refine q_forG ?_
  refine (eds_cons (ed_var (i := 0) rfl (hx.ex e1)) (eds_cons (ed_var (i := 1) rfl (hy.ex e1)) (eds_cons (ed_var (i := 2) rfl (hc.ex e1)) eds_nil)) : Eds K (tCons (tVar 0) (tCons (tVar 1) (tCons (tVar 2) tNil))) [some x, some y, some c, some .non, none] H1 _) H1 (Ex.refl _) _ fun vs H2 e2 r => ?_
  cases r with
  | cons r1 r =>
  cases r with
  | cons r2 r =>
  cases r with
  | cons r3 r =>
  cases r
  refine ⟨.non, _, rfl, _, _, _, u, lo, ks, rfl, r1, r2, r3, ok, wh, rfl, fun v H3 e3 rv y => ?_⟩
  exact s_retD (ed_var rfl rv) fun v' H4 e4 r4 => q v' H4 (((e1.trans e2).trans e3).trans e4) r4
theorem ed_callB {K : PySem.W.Frag} {σ : L2.St} {H : Hp} {tr : TA} {u lo : List Str} {ks : List Bool} (h : Eds K tr σ H [tS u, tS lo, tS (ks.map kindS)]) (ok : AlongOk u lo ks) (wh : wholeR u lo = true) : Ed K (tCall (spBehind K) [] E0 tr) σ H (prT (behindF u lo ks)) := fun H1 e Q q =>
  h H1 e _ fun vs H2 e2 r => by
    cases r with
    | cons r1 r =>
    cases r with
    | cons r2 r =>
    cases r with
    | cons r3 r =>
    cases r
    exact ⟨_, _, _, u, lo, ks, rfl, r1, r2, r3, ok, wh, fun v H3 e3 rv => q v H3 (e2.trans e3) rv⟩
def spReqC (K : PySem.W.Frag) : Sp := fun vs H Q _ => ∃ a c u lo ks, vs = [.ref a, c] ∧ IsOrd K H a u lo ∧ Rp K H c (tS (ks.map kindS)) ∧ AlongOk u lo ks ∧ wholeR u lo = true ∧ ks.length ≤ 1000 ∧ ∀ v H', Ex H H' → Rp K H' v (prT (behindF u lo ks)) → Q v H'
theorem sc_require_course : FnScope ["order", "value", "rows"] ["order", "value"] (defScope (gF "require_course" 50).st) := ⟨rfl, rfl, rfl, by decide +kernel, rfl, by decide +kernel, by decide +kernel⟩
theorem c_require_course {P : Program} {w : World} {K : PySem.W.Frag} {mg : Str → Option Value} {base : Heap} (W : W0 K mg base) : Cal P w K mg base 8 (gF "require_course" 50) ["order", "value"] (spReqC K) := by
  refine Cal.of W 39 rfl sc_require_course (fun vs H Q E h => ?len) (fun _ _ _ _ _ _ us hl => match us, hl with | [_, _], _ => rfl) (fun cdv A outer s H vs Q E hr h => ?body)
  case len => obtain ⟨_, _, _, _, _, rfl, _⟩ := h; rfl
  have nd := sc_require_course.nd
  refine ⟨_, (pss_cons (ps_set (i := 2) nd rfl (Or.inl rfl) (pe_ifExp (pt_val (k_cal K (c_is_kinds W) (hr.mono (by decide)) rfl (W.g 25 rfl) (pa_cons (pv 1) pa_nil))) (k_cal K (c_rows_behind W) (hr.mono (by decide)) rfl (W.g 27 rfl) (pa_cons (k_prop K (pv 0) W 0 rfl (c_Order_above W) (hr.mono (by decide))) (pa_cons (k_prop K (pv 0) W 1 rfl (c_Order_below W) (hr.mono (by decide))) (pa_cons (pv 1) pa_nil)))) pe_non))
      (pss_cons (ps_if (pt_cmpR op_isN (pv 2) pe_non (nomark _)) (pss_one ps_never) pss_nil)
      (pss_one (ps_ret (pv 2))))), ?_⟩
  obtain ⟨a, c, u, lo, ks, rfl, ho, hc, ok, wh, hz, q⟩ := h
  refine q_asgD (d := prT (behindF u lo ks)) (ed_if (b := true) (et_B fun H1 e Q1 q1 => ⟨_, rfl, c, ks, rfl, hc.ex e, hz, fun H2 e2 => q1 H2 e2⟩) (fun _ => ed_callB (eds_cons (ed_propO (f := fun u _ => tS u) (pre := anyO) (ev_var rfl) ho trivial) (eds_cons (ed_propO (f := fun _ l => tS l) (pre := anyO) (ev_var rfl) ho trivial) (eds_cons (ed_var rfl hc) eds_nil))) ok wh) (fun z => nomatch z)) fun v H1 e1 rv => ?_
  obtain ⟨T, xs, rfl, hs, rs⟩ := rp_tup rv
  refine q_when (b := false) (et_isN (v := .ref T) (ev_var rfl) rfl) (fun z => nomatch z) fun _ H2 e2 => ?_
  exact s_retD (ed_var rfl (rv.ex e2)) fun v' H3 e3 r3 => q v' H3 ((e1.trans e2).trans e3) r3
def spOBehind (K : PySem.W.Frag) : Sp := fun vs H Q _ => ∃ a c u lo ks, vs = [.ref a, c] ∧ IsOrd K H a u lo ∧ Rp K H c (tS (ks.map kindS)) ∧ AlongOk u lo ks ∧ wholeR u lo = true ∧ ks.length ≤ 1000 ∧ RowsOk (behindF u lo ks).1 (behindF u lo ks).2 ∧ ∀ b H', Ex H H' → IsOrd K H' b (behindF u lo ks).1 (behindF u lo ks).2 → Q (.ref b) H'
theorem q_newO {K : PySem.W.Frag} {σ : L2.St} {H : Hp} {ta tb : TE} {u l : List Str} {Q : VK} (ha : Ed K ta σ H (tS u)) (hb : Ed K tb σ H (tS l)) (ok : RowsOk u l) (k : ∀ x H', Ex H H' → IsOrd K H' x u l → Q (.ref x) H') : tMake (He.ga K "Order") (spInit K) [] E0 (tCons ta (tCons tb tNil)) σ H Q :=
  ha H (Ex.refl _) _ fun vu H1 e1 ru => hb H1 e1 _ fun vl H2 e2 rl x dx hx hd hn => by
    have kx : ∀ {H'}, Kx x dx (upd (upd H2 dx (.own x)) x (.ins (He.ga K "Order") dx [])) H' → Ex H2 H' := fun {H'} kk a o h => by
      have n1 : a ≠ x := ne_of_none h hx
      have n2 : a ≠ dx := ne_of_none h hd
      refine kk a o n1 n2 ?_
      rw [upd_ne n1, upd_ne n2]
      exact h
    have e3 : Ex H2 (upd (upd H2 dx (.own x)) x (.ins (He.ga K "Order") dx [])) := kx (Kx.refl _)
    exact ⟨x, dx, vu, vl, u, l, rfl, ⟨.inl ⟨upd_same, rfl⟩, .inl (by rw [upd_ne hn, upd_same]), hn⟩, (ru.ex e2).ex e3, rl.ex e3, ok, fun H' kk io => ⟨rfl, k x H' ((e1.trans e2).trans (kx kk)) io⟩⟩
theorem sc_order_behind : FnScope ["order", "course", "upper", "lower"] ["order", "course"] (defScope (gF "order_behind" 51).st) := ⟨rfl, rfl, rfl, by decide +kernel, rfl, by decide +kernel, by decide +kernel⟩
theorem c_order_behind {P : Program} {w : World} {K : PySem.W.Frag} {mg : Str → Option Value} {base : Heap} (W : W0 K mg base) : Cal P w K mg base 9 (gF "order_behind" 51) ["order", "course"] (spOBehind K) := by
  refine Cal.of W 40 rfl sc_order_behind (fun vs H Q E h => ?len) (fun _ _ _ _ _ _ us hl => match us, hl with | [_, _], _ => rfl) (fun cdv A outer s H vs Q E hr h => ?body)
  case len => obtain ⟨_, _, _, _, _, rfl, _⟩ := h; rfl
  have nd := sc_order_behind.nd
  refine ⟨_, (pss_cons (ps_expr (k_cal K (c_require_order W) (hr.mono (by decide)) rfl (W.g 9 rfl) (pa_cons (pv 0) pa_nil)))
      (pss_cons (ps_asg (k_cal K (c_require_course W) (hr.mono (by decide)) rfl (W.g 28 rfl) (pa_cons (pv 0) (pa_cons (pv 1) pa_nil))) (pg_tup rfl (pgs_cons (pg_name (i := 2) nd rfl (Or.inl rfl)) (pgs_cons (pg_name (i := 3) nd rfl (Or.inl rfl)) pgs_nil))))
      (pss_one (ps_ret (k_new K (c_Order___init__ W) W 0 rfl (hr.mono (by decide)) rfl (W.g 7 rfl) (pa_cons (pv 2) (pa_cons (pv 3) pa_nil))))))), ?_⟩
  obtain ⟨a, c, u, lo, ks, rfl, ho, hc, ok, wh, hz, hok, q⟩ := h
  refine q_drop (v := .non) (ev_non (ed_callO (ev_var rfl) ho trivial)) fun H1 e1 => ?_
  refine q_asgT2 (K := K) (d := tS (behindF u lo ks).1) (d2 := tS (behindF u lo ks).2) (fun H2 e2 Q1 q1 => ⟨_, rfl, _, rfl, a, c, u, lo, ks, rfl, (ho.ex e1).ex e2, (hc.ex e1).ex e2, ok, wh, hz, fun v H3 e3 r => q1 v H3 e3 r⟩) fun v1 v2 H2 e2 r1 r2 => ?_
  exact q_newO (ed_var rfl r1) (ed_var rfl r2) hok fun b H3 e3 io => q b H3 ((e1.trans e2).trans e3) io
end PR
end
section
set_option Elab.async false
set_option linter.all false
set_option maxRecDepth 100000
set_option maxHeartbeats 4000000
/-! The law's whole rows. -/
namespace PR
open PySem PySem.Spec PyProof.Rows L2 Evl
def lcutB (u l : List Str) (k : Nat) : Bool := decide ((u.take k).length = (l.take k).length ∧ ∀ x ∈ u.take k, x ∈ l.take k)
def lcuts (u l : List Str) : List Nat := (List.range (u.length - 1)).filter fun i => lcutB u l (i + 1)
def lwholeB (u l : List Str) : Bool := decide (1 < u.length) && (lcuts u l).isEmpty
theorem ev_eqLL {K : PySem.W.Frag} {σ : L2.St} {H : Hp} {ta tb : TE} {ds es : List PyData} {b : Bool} (h1 : EdL K ta σ H ds) (h2 : EdL K tb σ H es) (s1 : SeqAt.shaped (.list ds) = true) (s2 : SeqAt.shaped (.list es) = true) (e : PyData.eqv (.list ds) (.list es) = b) : Ev (tOp (rEqD K) ta tb) σ H (.bl b) := fun H1 e0 Q q =>
  h1 H1 e0 _ fun p vs H2 _ e2 h2' r2 => h2 H2 (e0.trans e2) _ fun p' vs' H3 _ e3 h3 r3 => ⟨_, _, dp_list (sq_of (e3 _ _ h2')) (r2.ex e3), dp_list (sq_of h3) r3, s1, s2, by rw [e]; exact q H3 (e2.trans e3)⟩
theorem ev_eqLs {K : PySem.W.Frag} {σ : L2.St} {H : Hp} {ta tb : TE} {p : Addr} {vs : List V} {ds es : List PyData} {b : Bool} (h1 : Ev ta σ H (.ref p)) (hs : ∀ H', Ex H H' → SqL K H' p vs) (hr : Rps K H vs ds) (h2 : EdL K tb σ H es) (s1 : SeqAt.shaped (.list ds) = true) (s2 : SeqAt.shaped (.list es) = true) (e : PyData.eqv (.list ds) (.list es) = b) : Ev (tOp (rEqD K) ta tb) σ H (.bl b) := fun H1 e0 Q q =>
  h1 H1 e0 _ fun H2 e2 => h2 H2 (e0.trans e2) _ fun p' vs' H3 _ e3 h3 r3 => ⟨_, _, dp_list (hs _ ((e0.trans e2).trans e3)) (hr.ex ((e0.trans e2).trans e3)), dp_list (sq_of h3) r3, s1, s2, by rw [e]; exact q H3 (e2.trans e3)⟩
theorem rng_ixL {lo : Int} {n i : Nat} {d : PyData} (h : (rngD lo n)[i]? = some d) : i < n ∧ d = .int (lo + (i : Int)) := by
  unfold rngD at h
  rw [List.getElem?_map, Option.map_eq_some_iff] at h
  obtain ⟨j, hj, rfl⟩ := h
  obtain ⟨hi, rfl⟩ := List.getElem?_eq_some_iff.mp hj
  rw [List.length_range] at hi
  rw [List.getElem_range]
  exact ⟨hi, rfl⟩
def spIsW (K : PySem.W.Frag) : Sp := fun vs H Q _ => ∃ (a b : Addr) (u l : List Str), vs = [.ref a, .ref b] ∧ H a = some (.lst (u.map V.str)) ∧ H b = some (.lst (l.map V.str)) ∧ u.Nodup ∧ l.Nodup ∧ u.length ≤ 100 ∧ l.length ≤ 100 ∧ ∀ H', Ex H H' → Q (.bl (lwholeB u l)) H'
theorem sc__law_is_whole : FnScope ["_law_upper", "_law_lower", "_law_cuts", "_law_k"] ["_law_upper", "_law_lower"] (defScope (gF "_law_is_whole" 75).st) := ⟨rfl, rfl, rfl, by decide +kernel, rfl, by decide +kernel, by decide +kernel⟩
theorem c__law_is_whole {P : Program} {w : World} {K : PySem.W.Frag} {mg : Str → Option Value} {base : Heap} (W : W0 K mg base) : Cal P w K mg base 1 (gF "_law_is_whole" 75) ["_law_upper", "_law_lower"] (spIsW K) := by
  refine Cal.of W 59 rfl sc__law_is_whole (fun vs H Q E h => ?len) (fun _ _ _ _ _ _ us hl => match us, hl with | [_, _], _ => rfl) (fun cdv A outer s H vs Q E hr h => ?body)
  case len => obtain ⟨_, _, _, _, rfl, _⟩ := h; rfl
  have nd := sc__law_is_whole.nd
  refine ⟨_, (pss_cons (ps_setLc (own := [("_law_k", 3)]) (g := (gName 3)) (i := 2) rfl nd rfl rfl (sw_true rfl rfl rfl (by decide +kernel)) (pi_range2 rfl (W.f 11 rfl) (pa_cons pe_int (pa_cons (pe_callB (k_len K) rfl (W.f 0 rfl) bb_len (pa_cons (pv 0) pa_nil)) pa_nil))) (blkOk_by (N := ["_law_upper", "_law_lower", "_law_cuts", "_law_k"]) (sc := defScope (gF "_law_is_whole" 75).st) (by decide +kernel)) (fun _ _ _ _ _ => (pg_name (i := 3) nd rfl (by first | exact Or.inl rfl | exact Or.inr rfl))) (fun _ _ _ _ _ => (pts_one (pt_cmpR (or_setEq P w hr.units) (pe_callTy (cr_setT P w rfl) rfl (W.f 15 rfl) bb_set (pa_cons (pe_slice (k_slL K) (pv 0) po_none (po_some (pv 3))) pa_nil)) (pe_callTy (cr_setT P w rfl) rfl (W.f 15 rfl) bb_set (pa_cons (pe_slice (k_slL K) (pv 1) po_none (po_some (pv 3))) pa_nil)) (nomark _)))) (fun _ _ _ _ _ => (pv 3)))
      (pss_one (ps_ret (pe_and (pe_cmpR op_gt (pe_callB (k_len K) rfl (W.f 0 rfl) bb_len (pa_cons (pv 0) pa_nil)) pe_int (nomark _)) (pe_one (pe_cmpR (k_eqD K hr.units) (pv 2) (pe_lst pa_nil) (nomark _))))))), ?_⟩
  obtain ⟨a, b, u, l, rfl, ha, hb, nu, nl, zu, zl, q⟩ := h
  refine q_asgM (edL_is (es := (lcuts u l).map fun i : Nat => PyData.int (1 + (i : Int))) (edL_flt (K := K) (ws := [3]) (j := 3) (fun d => match d with | .int i => lcutB u l i.toNat | _ => false) id (edI_rng2 (lo := 1) (n := (u.length : Int)) (eva_cons ev_c (eva_cons (ev_is (ev_len (ev_var rfl) (sq_of ha)) (by rw [List.length_map])) eva_nil)) (by omega) (by omega)) (fun _ _ => exT) (by rw [rng_len]; omega) (fun _ => rfl) fun d x H1 e1 hm r => ?_) ?_) fun p ws H1 f1 e1 h1 r1 => ?_
  · obtain ⟨i, hi⟩ := List.mem_iff_getElem?.mp hm
    obtain ⟨hn, rfl⟩ := rng_ixL hi
    cases r
    have sl : ∀ (r : List Str), cutL (r.map PyData.str) none (some (1 + (i : Int))) = (r.take (i + 1)).map PyData.str := fun r => by
      rw [show (1 + (i : Int)) = ((i + 1 : Nat) : Int) by omega, cutL_to, List.map_take]
    refine ⟨et_is (et_test (ev_setEq (K := K) (b := lcutB u l (i + 1)) (xs := u.take (i + 1)) (ys := l.take (i + 1)) (edL_is (edL_sl (ev_var rfl) (sq_of (e1 _ _ ha)) (rps_strs u) eo_none (eo_some (ev_var rfl))) (sl u)) (edL_is (edL_sl (ev_var rfl) (sq_of (e1 _ _ hb)) (rps_strs l) eo_none (eo_some (ev_var rfl))) (sl l)) (nu.sublist (List.take_sublist _ _)) (nl.sublist (List.take_sublist _ _)) (by rw [List.length_take]; omega) (by rw [List.length_take]; omega) ?_)) ?_, fun _ => ed_int (ev_var rfl)⟩
    · show decide _ = true ↔ _
      rw [decide_eq_true_iff]
    · show _ = lcutB u l (1 + (i : Int)).toNat
      rw [show (1 + (i : Int)).toNat = i + 1 by omega]
  · unfold rngD lcuts
    rw [List.map_id, List.filter_map, show ((u.length : Int) - 1).toNat = u.length - 1 by omega]
    refine congrArg _ (List.filter_congr fun i _ => ?_)
    show lcutB u l (1 + (i : Int)).toNat = _
    rw [show (1 + (i : Int)).toNat = i + 1 by omega]
  · refine s_ret (ev_is (ev_andV (a := decide (1 < u.length)) (b := (lcuts u l).isEmpty) (ev_is (ev_op (ev_len (ev_var rfl) (sq_of (e1 _ _ ha))) ev_c rv_I0) ?_) fun _ => ev_eqLs (ev_var rfl) (fun H' e => sq_of (e _ _ h1)) r1 (edL_lst eds_nil (Nat.zero_le _)) ?_ rfl ?_) rfl) fun H2 e2 => q H2 (e1.trans e2)
    · rw [List.length_map]
      refine congrArg V.bl ?_
      rw [Bool.eq_iff_iff]
      simp
      omega
    · have z := (shaped_ints ((lcuts u l).map fun i : Nat => 1 + (i : Int))).1
      rw [List.map_map] at z
      exact z
    · cases lcuts u l with
      | nil => rfl
      | cons x r => rfl
theorem rev_whole {u : List Str} (nd : u.Nodup) (h : 2 ≤ u.length) : lwholeB u u.reverse = true := by
  unfold lwholeB
  rw [Bool.and_eq_true]
  refine ⟨decide_eq_true (by omega), ?_⟩
  rw [List.isEmpty_iff, lcuts, List.filter_eq_nil_iff]
  intro i hi hc
  have hi := List.mem_range.mp hi
  have hc := of_decide_eq_true hc
  obtain ⟨x, r, rfl⟩ : ∃ x r, u = x :: r := by
    cases u with
    | nil => simp at h
    | cons x r => exact ⟨x, r, rfl⟩
  have h1 := hc.2 x (by simp)
  rw [List.reverse_cons, List.take_append_of_le_length (by simp at hi ⊢; omega)] at h1
  have h2 := List.mem_reverse.mp (List.mem_of_mem_take h1)
  exact (List.nodup_cons.mp nd).1 h2
def spRowsD (K : PySem.W.Frag) : Sp := fun vs H Q _ => ∃ (p : Addr) (n t : Nat), vs = [.ref p, .int (t : Int)] ∧ Dice H p n ∧ n < 30000 ∧ 2 ≤ t ∧ t ≤ 6 ∧
  ∀ (T pu pl : Addr) (u l : List Str) (H' : Hp), H T = none → H pu = none → H pl = none → H' T = some (.tup [.ref pu, .ref pl]) → H' pu = some (.lst (u.map V.str)) → H' pl = some (.lst (l.map V.str)) → NmOk u t → l.Perm u → lwholeB u l = true →
    Kp p H H' → Dice H' p (n + 100) → Q (.ref T) H'
theorem sc__law_rows_drawn : FnScope ["_law_dice_here", "_law_times", "_law_upper", "_law_lower", "_law_turn", "_law_other"] ["_law_dice_here", "_law_times"] (defScope (gF "_law_rows_drawn" 76).st) := ⟨rfl, rfl, rfl, by decide +kernel, rfl, by decide +kernel, by decide +kernel⟩
theorem c__law_rows_drawn {P : Program} {w : World} {K : PySem.W.Frag} {mg : Str → Option Value} {base : Heap} (W : W0 K mg base) : Cal P w K mg base 4 (gF "_law_rows_drawn" 76) ["_law_dice_here", "_law_times"] (spRowsD K) := by
  refine Cal.of W 60 rfl sc__law_rows_drawn (fun vs H Q E h => ?len) (fun _ _ _ _ _ _ us hl => match us, hl with | [_, _], _ => rfl) (fun cdv A outer s H vs Q E hr h => ?body)
  case len => obtain ⟨_, _, _, rfl, _⟩ := h; rfl
  have nd := sc__law_rows_drawn.nd
  refine ⟨_, (pss_cons (ps_set (i := 2) nd rfl (Or.inl rfl) (k_cal K (c__law_names_drawn W) (hr.mono (by decide)) rfl (W.g 47 rfl) (pa_cons (pv 0) (pa_cons (pv 1) pa_nil))))
      (pss_cons (ps_set (i := 3) nd rfl (Or.inl rfl) (pe_revL (pv 2)))
      (pss_cons (ps_if (pt_cmpR op_gt (k_cal K (c__law_roll W) (hr.mono (by decide)) rfl (W.g 43 rfl) (pa_cons (pv 0) (pa_cons pe_int pa_nil))) pe_int (nomark _)) (pss_one (ps_for PassesOwn.never rfl (pi_range1 rfl (W.f 11 rfl) (pa_cons pe_int pa_nil)) (pg_name (i := 4) nd rfl (Or.inl rfl)) (pss_cons (ps_set (i := 5) nd rfl (Or.inl rfl) (k_cal K (c__law_mixed W) (hr.mono (by decide)) rfl (W.g 45 rfl) (pa_cons (pv 0) (pa_cons (pv 2) pa_nil))))
      (pss_one (ps_if (pt_val (k_cal K (c__law_is_whole W) (hr.mono (by decide)) rfl (W.g 48 rfl) (pa_cons (pv 2) (pa_cons (pv 5) pa_nil)))) (pss_one (ps_set (i := 3) nd rfl (Or.inl rfl) (pv 5))) pss_nil))))) pss_nil)
      (pss_one (ps_ret (pe_tup (pa_cons (pv 2) (pa_cons (pv 3) pa_nil)))))))), ?_⟩
  obtain ⟨p, n, t, rfl, hd, hn, t1, t2, q⟩ := h
  refine ⟨_, rfl, _, rfl, ?_⟩
  refine ⟨p, n, t, rfl, hd, by omega, by omega, fun pu u H1 f1 nm k1 h1 d1 => ?_⟩
  have npu : pu ≠ p := hd.ne (xs := []) f1
  refine q_asgM (edL_revLs (ev_var rfl) (sq_of h1) (rps_strs _)) fun pr ws H2 f2 e2 h2 r2 => ?_
  rw [← List.map_reverse] at r2
  obtain rfl := r2.strs
  have npr : pr ≠ p := d1.ne (xs := []) f2
  have fr : H pr = none := by
    cases hz : H pr with
    | none => rfl
    | some o =>
      have := k1 pr o npr hz
      rw [f2] at this
      exact nomatch this
  refine ⟨_, rfl, ?_⟩
  refine ⟨p, n + 10, 4, rfl, d1.ex e2, by omega, by decide, by decide, fun r H3 r0 r1 k3 d3 => ?_⟩
  refine ⟨r, 0, rfl, rfl, _, rfl, ?_⟩
  have nup : pu ≠ pr := fun z => by
    subst z
    rw [h1] at f2
    exact nomatch f2
  have k13 : Kp p H1 H3 := (Kp.ex e2).trans k3
  have fin : ∀ (pl : Addr) (l : List Str) (m : Nat) (y4 y5 : Option V) (H' : Hp), H pl = none → H' pl = some (.lst (l.map V.str)) → H' pu = some (.lst (u.map V.str)) → l.Perm u → lwholeB u l = true → Kp p H H' → Dice H' p m → m ≤ n + 100 →
      tTup (tCons (tVar 2) (tCons (tVar 3) tNil)) [some (.ref p), some (.int (t : Int)), some (.ref pu), some (.ref pl), y4, y5] H' Q := by
    intro pl l m y4 y5 H' fl hl hu pm lw kk dd hm
    refine ⟨_, rfl, _, rfl, sz_of (by show 2 ≤ 100000; decide), fun T hT => ?_⟩
    have npT : T ≠ p := dd.ne (xs := []) hT
    have fT : H T = none := by
      cases hz : H T with
      | none => rfl
      | some o =>
        have := kk T o npT hz
        rw [hT] at this
        exact nomatch this
    refine q T pu pl u l _ fT f1 fl upd_same ((Ex.new hT) _ _ hu) ((Ex.new hT) _ _ hl) nm pm lw (kk.trans (Kp.ex (Ex.new hT))) ?_
    obtain ⟨a, b, c, z1, z2, z3, z4, z5, z6⟩ := dd.ex (Ex.new hT)
    exact ⟨a, b, c, z1, z2, z3, z4, z5, by omega⟩
  dsimp only
  by_cases hb : r > 0
  · rw [if_pos (by simpa using hb)]
    refine s_forR1 (n := 4) (eva_cons ev_c eva_nil) (by decide)
      (fun i σ' H' => ∃ y4 y5 pl, ∃ l : List Str, σ' = [some (.ref p), some (.int (t : Int)), some (.ref pu), some (.ref pl), y4, y5] ∧ H pl = none ∧ H' pl = some (.lst (l.map V.str)) ∧ l.Perm u ∧ lwholeB u l = true ∧ Kp p H1 H' ∧ Dice H' p (n + 11 + 6 * i))
      (fun H4 e4 => ⟨none, none, pr, u.reverse, rfl, fr, e4 _ _ (k3.lst npr h2), List.reverse_perm u, rev_whole nm.nd (by rw [nm.len]; omega), k13.trans (Kp.ex e4), d3.ex e4⟩) (fun i σ' H' hi pv => ?_) (fun σ' H' pv => ?_)
    · obtain ⟨y4, y5, pl, l, rfl, fl, hl, pm, lw, kk, dd⟩ := pv
      have hu' := kk.lst npu h1
      refine ⟨_, rfl, _, rfl, ?_⟩
      refine ⟨p, pu, n + 11 + 6 * i, u, rfl, dd, by omega, hu', npu, by rw [nm.len]; omega, fun po o H5 f5 pmo k5 h5 d5 => ?_⟩
      have npo : po ≠ p := dd.ne (xs := []) f5
      have k15 := kk.trans k5
      have fo : H po = none := by
        cases hz : H po with
        | none => rfl
        | some w =>
          have := (k1.trans kk) po w npo hz
          rw [f5] at this
          exact nomatch this
      have d5' : Dice H5 p (n + 11 + 6 * (i + 1)) := by
        obtain ⟨a, b, c, z1, z2, z3, z4, z5, z6⟩ := d5
        refine ⟨a, b, c, z1, z2, z3, z4, z5, ?_⟩
        rw [nm.len] at z6
        omega
      have npl : pl ≠ p := by
        rintro rfl
        obtain ⟨a, b, c, z1, _⟩ := hd
        rw [fl] at z1
        exact nomatch z1
      refine ⟨_, rfl, _, rfl, ?_⟩
      refine ⟨pu, po, u, o, rfl, k5.lst npu hu', h5, nm.nd, pmo.nodup_iff.mpr nm.nd, by rw [nm.len]; omega, by rw [pmo.length_eq, nm.len]; omega, fun H6 e6 => ?_⟩
      refine ⟨_, rfl, ?_⟩
      cases hw : lwholeB u o with
      | true => exact ⟨_, rfl, some (.int (i : Int)), some (.ref po), po, o, rfl, fo, e6 _ _ h5, pmo, hw, k15.trans (Kp.ex e6), d5'.ex e6⟩
      | false => exact ⟨some (.int (i : Int)), some (.ref po), pl, l, rfl, fl, e6 _ _ (k5.lst npl hl), pm, lw, k15.trans (Kp.ex e6), d5'.ex e6⟩
    · obtain ⟨y4, y5, pl, l, rfl, fl, hl, pm, lw, kk, dd⟩ := pv
      exact fin pl l _ y4 y5 H' fl hl (kk.lst npu h1) pm lw (k1.trans kk) dd (by simp)
  · rw [if_neg (by simpa using hb)]
    exact fin pr u.reverse (n + 11) none none H3 fr (k3.lst npr h2) (k13.lst npu h1) (List.reverse_perm u) (rev_whole nm.nd (by rw [nm.len]; omega)) (k1.trans k13) d3 (by omega)
end PR
end
section
set_option Elab.async false
set_option linter.all false
set_option maxRecDepth 100000
set_option maxHeartbeats 4000000
/-! The law's corners. -/
namespace PR
open PySem PySem.Spec PyProof.Rows L2 Evl
/-- all but d stays, the tuples stay -/
def KT (d : Addr) (A B : Hp) : Prop := Kp d A B ∧ TEx A B
theorem KT.refl {d : Addr} (A : Hp) : KT d A A := ⟨Kp.refl A, TEx.refl A⟩
theorem KT.ex {d : Addr} {A B : Hp} (e : Ex A B) : KT d A B := ⟨Kp.ex e, exT e⟩
theorem KT.trans {d : Addr} {A B C : Hp} (h : KT d A B) (k : KT d B C) : KT d A C := ⟨h.1.trans k.1, h.2.trans k.2⟩
theorem KT.put {d : Addr} {A B : Hp} (h : ∀ a, a ≠ d → B a = A a) (t : TEx A B) : KT d A B := ⟨fun b o hb e => by rw [h b hb]; exact e, t⟩
section
variable {K : PySem.W.Frag} {P : Program} {w : World} {σ : L2.St} {H : Hp} {ta tb tc te td ty tv : TE} {tz : TS} {D : Ends} {ds : List PyData} {d : Addr}
theorem edI_enS {p : Addr} {vs : List V} (h : Ev te σ H (.ref p)) (hp : H p = some (.lst vs)) (hne : p ≠ d) (rs : Rps K H vs ds) : EdI (KT d) K (iEnum K (tCons te tNil)) σ H (enD ds) := fun H1 e R q =>
  h H1 e _ fun H2 e2 => by
    have e02 := e.trans e2
    refine ⟨p, vs, rfl, sq_of (e02 _ _ hp), q _ (fun H => H p = some (.lst vs) ∧ Rps K H vs ds) H2 e2 (fun H' t => ⟨t.1 _ _ hne (e02 _ _ hp), (rs.ex e02).up t.2⟩) ?_⟩
    unfold WkD
    rw [enD_len, ← rs.len]
    refine walk_enum.mono (fun _ g => sq_of g.1) fun i H x H' hi g y => ?_
    obtain ⟨T, x1, y1, rfl, hT, rfl, h1, h2⟩ := y
    obtain ⟨d', h3, h4⟩ := g.2.to h2
    cases h1
    exact ⟨Ex.new hT, _, enD_at h3, rp_pair upd_same (.int _) (h4.ex (Ex.new hT))⟩
/-- a new list, the dict changing -/
theorem edI_newS {o : HO} (hd : H d = some o) (h : EdL K te σ H ds) : EdI (KT d) K (iList K te) σ H ds := fun H1 e R q =>
  h H1 e _ fun p vs H2 f2 e2 hl rs => by
    have hne : p ≠ d := by
      rintro rfl
      rw [e _ _ hd] at f2
      exact nomatch f2
    refine ⟨p, rfl, ⟨vs, sq_of hl⟩, q _ (fun H => H p = some (.lst vs) ∧ Rps K H vs ds) H2 e2 (fun H' t => ⟨t.1 _ _ hne hl, rs.up t.2⟩) ?_⟩
    unfold WkD
    rw [← rs.len]
    refine walk_list.mono (fun _ g => sq_of g.1) fun i H x H' hi g y => ?_
    obtain ⟨rfl, hx⟩ := y
    obtain ⟨d, h1, h2⟩ := g.2.to hx
    exact ⟨Ex.refl _, d, h1, h2⟩
theorem EdI.kt {wi : TI} (h : EdI TEx K wi σ H ds) : EdI (KT d) K wi σ H ds := fun H1 e R q => h H1 e R fun J G H2 e2 g w => q J G H2 e2 (fun H' e' => g H' e'.2) w
/-- the dict of ends, with ints -/
abbrev DG (K : PySem.W.Frag) (P : Program) (w : World) (H : Hp) (d : Addr) (gl : GL) : Prop := DY K P w H d (encG gl)
theorem ed_end {x : Bool} {i : Int} (h1 : Ev ta σ H (.str (ud x))) (h2 : Ev tb σ H (.int i)) : Ed K (tTup (tCons ta (tCons tb tNil))) σ H (dB (x, i)) := ed_tup (eds_cons (ed_str h1) (eds_cons (ed_int h2) eds_nil)) (by show 2 ≤ 100000; decide)
theorem ev_yget {gl : GL} {k : End} (h1 : Ev td σ H (.ref d)) (hd : DG K P w H d gl) (h2 : Ed K ty σ H (dB k)) (hk : k ∈ gl.map (·.1)) : Ev (tDyGet K P w td ty) σ H (.int (gget gl k)) := fun H1 e Q q =>
  h1 H1 e _ fun H2 e2 => h2 H2 (e.trans e2) _ fun v H3 e3 r => ⟨d, _, k, _, rfl, hd.ext ((e.trans e2).trans e3), r, encG_val hk, q H3 (e2.trans e3)⟩
theorem s_yput {kvs : List (End × V)} {k : End} {v : V} (hd : DY K P w H d kvs) (hv : Ev tv σ H v) (ho : Ev td σ H (.ref d)) (hk : Ed K ty σ H (dB k)) (hz : kvs.length < 100000) (q : ∀ H', KT d H H' → DY K P w H' d (putK kvs k v) → D.nx σ H') : sDyPut K P w td ty tv D σ H :=
  hv H (Ex.refl _) _ fun H1 e1 => ho H1 e1 _ fun H2 e2 => hk H2 (e1.trans e2) _ fun b H3 e3 r => ⟨d, kvs, k, rfl, hd.ext ((e1.trans e2).trans e3), r, hz, fun H' h1 h2 h3 => q H' ((KT.ex ((e1.trans e2).trans e3)).trans (KT.put h1 h2)) h3⟩
theorem edL_sortY {gl : GL} (h : Ev ta σ H (.ref d)) (hd : DG K P w H d gl) : EdL K (tCB (rSortY K P w) (tCons ta tNil)) σ H ((sortY (gl.map (·.1))).map dB) := fun H1 e Q q =>
  h H1 e _ fun H2 e2 => ⟨d, _, rfl, hd.ext (e.trans e2), fun p ws hp r => by
    rw [encG_keys] at r
    exact q p ws _ (fresh_back e2 hp) (e2.trans (Ex.new hp)) upd_same (r.ex (Ex.new hp))⟩
theorem q_dictY {gl : GL} {i : Nat} (h : EdL K ta σ H (gl.map fun k => .tuple [dB k.1, .int k.2])) (nd : (gl.map (·.1)).Nodup) (hz : gl.length ≤ 1000) (k : ∀ d H1, H d = none → Ex H H1 → DG K P w H1 d gl → tz D (σ.set i (some (.ref d))) H1) : tSeq (tAsg (tCB (rDictY K P w) (tCons ta tNil)) (gName i)) tz D σ H :=
  h H (Ex.refl _) _ fun p vs H1 f1 e1 h1 r1 => ⟨p, vs, gl, rfl, h1, r1, nd, hz, fun d H2 fd e2 dg => k d H2 (fresh_back e1 fd) (e1.trans e2) dg⟩
theorem q_asg2Y {kvs : List (End × V)} {k1 k2 : End} {v1 v2 : V} {td2 ty2 : TE} (hd : DY K P w H d kvs) (h1 : Ev ta σ H v1) (h2 : Ev tb σ H v2) (o1 : ∀ H1, Ev td σ H1 (.ref d)) (i1 : ∀ H1, Ed K ty σ H1 (dB k1)) (o2 : ∀ H1, Ev td2 σ H1 (.ref d)) (i2 : ∀ H1, Ed K ty2 σ H1 (dB k2)) (hz : kvs.length < 90000)
    (q : ∀ H', KT d H H' → DY K P w H' d (putK (putK kvs k1 v1) k2 v2) → tz D σ H') : tSeq (tAsg (tTup (tCons ta (tCons tb tNil))) (gTup K 2 (gCons (gSub td ty (rSetY K P w)) (gCons (gSub td2 ty2 (rSetY K P w)) gNil)))) tz D σ H :=
  h1 H (Ex.refl _) _ fun H1 e1 => h2 H1 e1 _ fun H2 e2 => ⟨sz_of (by show 2 ≤ 100000; decide), fun T hT => by
    have e3 : Ex H2 (upd H2 T (.tup [v1, v2])) := Ex.new hT
    refine ⟨T, [v1, v2], rfl, SqT.of upd_same, rfl, v1, _, rfl, ?_⟩
    refine o1 _ _ (Ex.refl _) _ fun H4 e4 => i1 _ _ (Ex.refl _) _ fun y H5 e5 r => ?_
    have e05 := (((e1.trans e2).trans e3).trans e4).trans e5
    refine ⟨d, kvs, k1, rfl, hd.ext e05, r, by omega, fun H6 a6 t6 d6 => ⟨v2, _, rfl, ?_⟩⟩
    refine o2 _ _ (Ex.refl _) _ fun H7 e7 => i2 _ _ (Ex.refl _) _ fun y2 H8 e8 r2 => ?_
    have hl := length_putK kvs k1 v1
    refine ⟨d, _, k2, rfl, d6.ext (e7.trans e8), r2, by omega, fun H9 a9 t9 d9 => ⟨rfl, ?_⟩⟩
    exact q H9 ((((KT.ex e05).trans (KT.put a6 t6)).trans (KT.ex (e7.trans e8))).trans (KT.put a9 t9)) d9⟩
end
/-! ### the groups' dict -/
def PG (K : PySem.W.Frag) (H : Hp) : List (Key × V) → GR → Prop := Paired fun kv g => kv.1 = .inl g.1 ∧ Rp K H kv.2 (encT g.2)
section
variable {K : PySem.W.Frag} {P : Program} {w : World} {σ : L2.St} {H H' : Hp} {ta tb tc te td ty tv : TE} {tz : TS} {D : Ends} {ds : List PyData} {d : Addr} {kvs : List (Key × V)} {g : GR}
theorem PG.up (h : PG K H kvs g) (e : TEx H H') : PG K H' kvs g := Paired.mapP h fun p q z => ⟨z.1, z.2.up e⟩
theorem PG.len (h : PG K H kvs g) : kvs.length = g.length := Paired.length h
theorem PG.any (h : PG K H kvs g) (k : Int) : (kvs.any fun kv => decide (kv.1 = .inl k)) = g.any fun p => decide (p.1 = k) := by
  induction h with
  | nil => rfl
  | cons a t ih =>
    rw [List.any_cons, List.any_cons, ih, a.1]
    congr 1
    exact decide_eq_decide.mpr ⟨Sum.inl.inj, congrArg Sum.inl⟩
def gold (g : GR) (k : Int) : List Int := match g.find? fun p => decide (p.1 = k) with | some p => p.2 | none => []
theorem PG.val (h : PG K H kvs g) (k : Int) : (∃ v, valV kvs (.inl k) = some v ∧ Rp K H v (encT (gold g k))) ∨ (valV kvs (.inl k) = none ∧ gold g k = []) := by
  induction h with
  | nil => exact .inr ⟨rfl, rfl⟩
  | @cons p q ps qs a t ih =>
    by_cases e : q.1 = k
    · refine .inl ⟨p.2, valV_pos (by rw [a.1, e]), ?_⟩
      have : gold (q :: qs) k = q.2 := by simp [gold, List.find?_cons, e]
      rw [this]
      exact a.2
    · have e2 : ¬ p.1 = .inl k := fun z => e (Sum.inl.inj (a.1.symm.trans z))
      have e3 : gold (q :: qs) k = gold qs k := by simp [gold, List.find?_cons, e]
      rw [valV_neg e2, e3]
      exact ih
theorem PG.put {k i : Int} {v : V} (h : PG K H kvs g) (nd : (g.map (·.1)).Nodup) (hv : Rp K H v (encT (gold g k ++ [i]))) : PG K H (putK kvs (.inl k) v) (addG g k i) := by
  unfold putK addG
  rw [h.any k]
  split
  · rename_i hy
    clear hy
    induction h with
    | nil => exact .nil
    | @cons p q ps qs a t ih =>
      rw [List.map_cons, List.nodup_cons] at nd
      by_cases e : q.1 = k
      · have e2 : p.1 = .inl k := by rw [a.1, e]
        rw [List.map_cons, List.map_cons, if_pos e2, if_pos e]
        have hg : gold (q :: qs) k = q.2 := by simp [gold, List.find?_cons, e]
        rw [hg] at hv
        refine .cons ⟨a.1, hv⟩ ?_
        have n1 : ∀ x ∈ qs, ¬ x.1 = k := fun x hx z => nd.1 (List.mem_map.mpr ⟨x, hx, z.trans e.symm⟩)
        clear ih hv hg nd
        induction t with
        | nil => exact .nil
        | @cons p2 q2 _ _ a2 t2 ih2 =>
          have m1 := n1 q2 List.mem_cons_self
          rw [List.map_cons, List.map_cons, if_neg m1, if_neg (fun z => m1 (Sum.inl.inj (a2.1.symm.trans z)))]
          exact .cons a2 (ih2 fun x hx => n1 x (List.mem_cons_of_mem _ hx))
      · have e2 : ¬ p.1 = .inl k := fun z => e (Sum.inl.inj (a.1.symm.trans z))
        rw [List.map_cons, List.map_cons, if_neg e2, if_neg e]
        have e3 : gold (q :: qs) k = gold qs k := by simp [gold, List.find?_cons, e]
        rw [e3] at hv
        exact .cons a (ih nd.2 hv)
  · rename_i hn
    have hg : gold g k = [] := by
      unfold gold
      rw [List.find?_eq_none.mpr (fun p hp z => hn (List.any_eq_true.mpr ⟨p, hp, z⟩))]
    rw [hg] at hv
    exact paired_snoc ⟨rfl, hv⟩ h
end
section
variable {K : PySem.W.Frag} {P : Program} {w : World} {σ : L2.St} {H H' : Hp} {ta tb tc te td ty tv tx : TE} {tz : TS} {D : Ends} {ds : List PyData} {d q : Addr} {kvs : List (Key × V)} {g : GR}
theorem DY.kt {kvs : List (End × V)} (h : DY K P w H d kvs) (hne : d ≠ q) (k : KT q H H') : DY K P w H' d kvs := by
  obtain ⟨⟨xs, h1, h2⟩, h3, h4, h5⟩ := h
  exact ⟨⟨xs, k.1 _ _ hne h1, h2.up k.2⟩, h3, h4, h5⟩
theorem gold_sz {g : GR} {m : Nat} (h : ∀ p ∈ g, p.2.length ≤ m) (k : Int) : (gold g k).length ≤ m := by
  unfold gold
  split
  · rename_i p hp
    exact h p (List.mem_of_find?_eq_some hp)
  · exact Nat.zero_le _
theorem ed_gget {k : Int} (h1 : Ev td σ H (.ref q)) (hq : H q = some (.dK kvs)) (pg : PG K H kvs g) (h2 : Ev ty σ H (.int k)) (h3 : Ed K tx σ H (.tuple [])) : Ed K (tDGet2 td ty tx) σ H (encT (gold g k)) := fun H1 e Q qq =>
  h1 H1 e _ fun H2 e2 => ⟨q, rfl, .inl ⟨kvs, .inl ((e.trans e2) _ _ hq)⟩, h2 H2 (e.trans e2) _ fun H3 e3 => h3 H3 ((e.trans e2).trans e3) _ fun z H4 e4 r => by
    have e04 := ((e.trans e2).trans e3).trans e4
    refine ⟨valV kvs (.inl k), .inl ⟨kvs, .inl k, .inl (e04 _ _ hq), rfl, rfl⟩, ?_⟩
    rcases pg.val k with ⟨v, hv, rv⟩ | ⟨hv, hg⟩
    · rw [hv]
      exact qq v H4 ((e2.trans e3).trans e4) (rv.ex e04)
    · rw [hv]
      refine qq z H4 ((e2.trans e3).trans e4) ?_
      rw [hg]
      exact r⟩
theorem s_dputD {k : Int} {dt : PyData} (hq : H q = some (.dK kvs)) (hv : Ed K tv σ H dt) (ho : Ev td σ H (.ref q)) (hk : Ev ty σ H (.int k)) (hz : kvs.length < 100000) (kk : ∀ v H1, Ex H H1 → Rp K H1 v dt → D.nx σ (upd H1 q (.dK (putK kvs (.inl k) v)))) : sDPut td ty tv D σ H :=
  hv H (Ex.refl _) _ fun v H1 e1 r => ho H1 e1 _ fun H2 e2 => hk H2 (e1.trans e2) _ fun H3 e3 => ⟨q, _, rfl, .inl ⟨kvs, .inl k, ((e1.trans e2).trans e3) _ _ hq, rfl, sz_lt hz, rfl⟩, kk v H3 ((e1.trans e2).trans e3) (r.ex (e2.trans e3))⟩
theorem q_asgNK {i : Nat} (k : ∀ p, H p = none → tz D (σ.set i (some (.ref p))) (upd H p (.dK []))) : tSeq (tAsg tDNewK (gName i)) tz D σ H := fun p hp => k p hp
/-- the tuples alone stay -/
def TT (H H' : Hp) : Prop := ∀ a xs, Rd H a (.tup xs) → Rd H' a (.tup xs)
mutual
theorem Rp.tt (e : TT H H') : ∀ (d : PyData) (v : V), Rp K H v d → Rp K H' v d
  | .none, _, h => by cases h; exact .non
  | .bool b, _, h => by cases h; exact .bl b
  | .int i, _, h => by cases h; exact .int i
  | .str x, _, h => by cases h; exact .str x
  | .tuple ds, _, h => by
    cases h with
    | tup hs ha => exact .tup (hs.elim (fun r => .inl (e _ _ r)) .inr) (Rps.tt e ds _ ha)
  | .list _, _, h => by cases h
  | .dict _, _, h => by cases h
theorem Rps.tt (e : TT H H') : ∀ (ds : List PyData) (vs : List V), Rps K H vs ds → Rps K H' vs ds
  | [], _, h => by cases h; exact .nil
  | d :: ds, _, h => by
    cases h with
    | cons h1 h2 => exact .cons (Rp.tt e d _ h1) (Rps.tt e ds _ h2)
end
theorem edI_keys {od : Obj} (h : Ev te σ H (.ref q)) (hq : H q = some (.frz od (.dK kvs))) (hk : ∀ kv ∈ kvs, ∃ i, kv.1 = .inl i) : EdI Ex K (iKeys te) σ H (kvs.map fun kv => match kv.1 with | .inl i => .int i | .inr x => .str x) := fun H1 e R qq =>
  h H1 e _ fun H2 e2 => by
    refine ⟨q, od, rfl, .inl ⟨kvs, (e.trans e2) _ _ hq, qq _ (fun H => H q = some (.frz od (.dK kvs))) H2 e2 (fun H' t => t _ _ ((e.trans e2) _ _ hq)) ?_⟩⟩
    unfold WkD
    rw [List.length_map]
    refine walk_keys.mono (fun _ g => g) fun i H x H' hi g y => ?_
    obtain ⟨rfl, k, v, hkv, rfl⟩ := y
    obtain ⟨j, e⟩ := hk _ (List.mem_of_getElem? hkv)
    refine ⟨Ex.refl _, .int j, by rw [List.getElem?_map, hkv]; dsimp only at e; subst e; rfl, ?_⟩
    dsimp only at e
    subst e
    exact .int j
/-- [d[k] for k in d] -/
theorem edL_vals {j : Nat} {ws : List Nat} (h1 : ∀ H1, Ev (tVar j) σ H1 (.ref q)) (hq : H q = some (.dK kvs)) (pg : PG K H kvs g) (nd : (g.map (·.1)).Nodup) (hz : g.length ≤ 1000) {i : Nat} (hw : ∀ x, wipe ((wipe σ ws).set i (some x)) ws = wipe σ ws)
    (hi : ∀ x, ((wipe σ ws).set i (some x))[i]? = some (some x)) (hj : ∀ x, ((wipe σ ws).set i (some x))[j]? = some (some (.ref q))) :
    EdL K (tLockE (tLc (iKeys (tVar j)) (gName i) tYes (tDGet (tVar j) (tVar i)) ws)) σ H (g.map fun p => encT p.2) := fun H1 e Q qq => by
  have hq1 := e _ _ hq
  have pg1 := pg.up (exT e)
  refine ⟨q, .dK kvs, hq1, trivial, fun od => ?_⟩
  have hq2 : upd H1 q (.frz od (.dK kvs)) q = some (.frz od (.dK kvs)) := upd_same
  have t12 : TEx H1 (upd H1 q (.frz od (.dK kvs))) := TEx.dk hq1
  have hkk : ∀ {kvs : List (Key × V)} {g : GR}, PG K H kvs g → ∀ kv ∈ kvs, ∃ i, kv.1 = .inl i := by
    intro kvs g pg
    induction pg with
    | nil => intro kv h; exact nomatch h
    | cons a t ih =>
      intro kv h
      rcases List.mem_cons.mp h with rfl | h
      · exact ⟨_, a.1⟩
      · exact ih kv h
  have hkeys : ∀ {kvs : List (Key × V)} {g : GR}, PG K H kvs g → (kvs.map fun kv => match kv.1 with | .inl i => PyData.int i | .inr x => .str x) = g.map fun p => PyData.int p.1 := by
    intro kvs g pg
    induction pg with
    | nil => rfl
    | @cons p q _ _ a t ih =>
      obtain ⟨p1, p2⟩ := p
      obtain ⟨rfl, _⟩ := a
      rw [List.map_cons, List.map_cons, ih]
  have hgold : ∀ {g : GR}, (g.map (·.1)).Nodup → ∀ p ∈ g, gold g p.1 = p.2 := by
    intro g
    induction g with
    | nil => intro _ p hp; exact nomatch hp
    | cons x r ih =>
      intro nd p hp
      rw [List.map_cons, List.nodup_cons] at nd
      rcases List.mem_cons.mp hp with rfl | hp
      · simp [gold, List.find?_cons]
      · have : ¬ x.1 = p.1 := fun z => nd.1 (List.mem_map.mpr ⟨p, hp, z.symm⟩)
        have e : gold (x :: r) p.1 = gold r p.1 := by simp [gold, List.find?_cons, this]
        rw [e]
        exact ih nd.2 p hp
  have z := edL_map (K := K) (σ := σ) (H := upd H1 q (.frz od (.dK kvs))) (ws := ws) (j := i) (te := tDGet (tVar j) (tVar i)) (fun d => match d with | .int k => encT (gold g k) | _ => .none) (edI_keys (K := K) (h1 _) hq2 (hkk pg)) (fun _ _ e => e) (by rw [List.length_map, pg.len]; omega) hw (fun d x H2 e2 hm r => by
    rw [hkeys pg] at hm
    obtain ⟨p, hp, rfl⟩ := List.mem_map.mp hm
    cases r
    intro H3 e3 Q3 q3
    rcases (pg1.up (t12.trans (exT (e2.trans e3)))).val p.1 with ⟨v, hv, rv⟩ | ⟨hv, _⟩
    · exact ⟨_, hj _, _, hi _, q, v, rfl, .inl ⟨kvs, .inl p.1, .inr ⟨od, (e2.trans e3) _ _ hq2⟩, rfl, hv.symm⟩, q3 v H3 (Ex.refl _) rv⟩
    · exfalso
      have := pg.any p.1
      rw [valV_any, hv] at this
      have h2 : (g.any fun p' => decide (p'.1 = p.1)) = true := List.any_eq_true.mpr ⟨p, hp, decide_eq_true rfl⟩
      rw [h2] at this
      exact nomatch this)
  rw [hkeys pg, List.map_map] at z
  refine z _ (Ex.refl _) _ fun p vs H2 f2 e2 h2 r2 => ⟨e2 _ _ hq2, ?_⟩
  have hpq : p ≠ q := by
    rintro rfl
    rw [hq2] at f2
    exact nomatch f2
  have f1 : H1 p = none := by rwa [upd_ne hpq] at f2
  refine qq p vs _ f1 (fun b o hb => ?_) (by rw [upd_ne hpq]; exact h2) ?_
  · by_cases eb : b = q
    · subst eb
      rw [upd_same, ← hb]
      exact hq1.symm
    · rw [upd_ne eb]
      exact e2 _ _ (by rw [upd_ne eb]; exact hb)
  · have tt : TT H2 (upd H2 q (.dK kvs)) := fun a xs hr => by
      have hne : a ≠ q := by
        rintro rfl
        have e3 := e2 _ _ hq2
        rcases hr with hr | ⟨o, hr⟩
        · rw [e3] at hr; exact nomatch hr
        · rw [e3] at hr; exact nomatch hr
      unfold Rd
      rw [upd_ne hne]
      exact hr
    have r3 := Rps.tt tt _ _ r2
    rw [List.map_congr_left (g := fun p : Int × List Int => encT p.2) (fun p hp => by show encT (gold g p.1) = encT p.2; rw [hgold nd p hp])] at r3
    exact r3
end
theorem sortOk_tI {gs : List (List Int)} (h : gs.length ≤ 100000) (ne : ∀ g ∈ gs, g ≠ []) : SortOk (gs.map encT) where
  al := fun d hd e he => by
    obtain ⟨a, _, rfl⟩ := List.mem_map.mp hd
    obtain ⟨b, _, rfl⟩ := List.mem_map.mp he
    exact PySem.W.alike_ints a b
  so := .inl fun d hd => by
    obtain ⟨a, ha, rfl⟩ := List.mem_map.mp hd
    cases a with
    | nil => exact absurd rfl (ne _ ha)
    | cons x r => exact ⟨_, _, rfl⟩
  len := by rw [List.length_map]; exact h
  dep := fun d hd => by
    obtain ⟨a, _, rfl⟩ := List.mem_map.mp hd
    have := depth_encT a
    omega
theorem sortD_tI (gs : List (List Int)) : sortD (gs.map encT) = (sortP gs).map encT := by
  unfold sortD sortP
  refine (List.map_mergeSort (f := encT) fun a _ b _ => ?_).symm
  rfl
def spCorn (K : PySem.W.Frag) : Sp := fun vs H Q _ => ∃ (a b : Addr) (u l : List Str), vs = [.ref a, .ref b] ∧ H a = some (.lst (u.map V.str)) ∧ H b = some (.lst (l.map V.str)) ∧ u.length ≤ 6 ∧ 2 ≤ u.length ∧ l.length = u.length ∧ (∀ x ∈ u, x ∈ l) ∧
  ∀ p vs H', H p = none → Ex H H' → H' p = some (.lst vs) → Rps K H' vs ((sortP (cornL (plc u l))).map encT) → Q (.ref p) H'
theorem sc__law_corners : FnScope ["_law_upper", "_law_lower", "_law_size_here", "_law_at", "_law_glued", "_law_name", "_law_more", "_law_one", "_law_other", "_law_node", "_law_groups", "_law_mark"] ["_law_upper", "_law_lower"] (defScope (gF "_law_corners" 80).st) := ⟨rfl, rfl, rfl, by decide +kernel, rfl, by decide +kernel, by decide +kernel⟩
theorem c__law_corners {P : Program} {w : World} {K : PySem.W.Frag} {mg : Str → Option Value} {base : Heap} (W : W0 K mg base) : Cal P w K mg base 1 (gF "_law_corners" 80) ["_law_upper", "_law_lower"] (spCorn K) := by
  refine Cal.of W 64 rfl sc__law_corners (fun vs H Q E h => ?len) (fun _ _ _ _ _ _ us hl => match us, hl with | [_, _], _ => rfl) (fun cdv A outer s H vs Q E hr h => ?body)
  case len => obtain ⟨_, _, _, _, rfl, _⟩ := h; rfl
  have nd := sc__law_corners.nd
  refine ⟨_, (pss_cons (ps_set (i := 2) nd rfl (Or.inl rfl) (pe_callB (k_len K) rfl (W.f 0 rfl) bb_len (pa_cons (pv 0) pa_nil)))
      (pss_cons (ps_set (i := 4) nd rfl (Or.inl rfl) (pe_callTy (cr_dictY K P w rfl hr.units) rfl (W.f 16 rfl) bb_dict (pa_cons (pe_lc (own := [("_law_at", 3)]) (g := (gName 3)) (tt := tYes) rfl nd (pi_range1 rfl (W.f 11 rfl) (pa_cons (pe_op op_add (pv 2) pe_int) pa_nil)) (blkOk_by (N := ["_law_upper", "_law_lower", "_law_size_here", "_law_at", "_law_glued", "_law_name", "_law_more", "_law_one", "_law_other", "_law_node", "_law_groups", "_law_mark"]) (sc := defScope (gF "_law_corners" 80).st) (by decide +kernel)) (fun _ _ _ _ _ => (pg_name (i := 3) nd rfl (by first | exact Or.inl rfl | exact Or.inr rfl))) (fun _ _ _ _ _ => pts_nil) (fun _ _ _ _ _ => (pe_tup (pa_cons (pe_tup (pa_cons pe_str (pa_cons (pv 3) pa_nil))) (pa_cons (pv 3) pa_nil))))) pa_nil)))
      (pss_cons (ps_for PassesOwn.never rfl (pi_range2 rfl (W.f 11 rfl) (pa_cons pe_int (pa_cons (pv 2) pa_nil))) (pg_name (i := 3) nd rfl (Or.inl rfl)) (pss_one (ps_dyput K P w (hu_of hr) (pv 4) (pe_tup (pa_cons pe_str (pa_cons (pv 3) pa_nil))) (pe_op op_add (pv 2) (pv 3)) rfl)))
      (pss_cons (ps_asg (pe_tup (pa_cons pe_int (pa_cons (pv 2) pa_nil))) (pg_tup rfl (pgs_cons (pg_sub (pv 4) (pe_tup (pa_cons pe_str (pa_cons pe_int pa_nil))) (set_dy K P w (hu_of hr))) (pgs_cons (pg_sub (pv 4) (pe_tup (pa_cons pe_str (pa_cons (pv 2) pa_nil))) (set_dy K P w (hu_of hr))) pgs_nil))))
      (pss_cons (ps_for PassesOwn.never rfl (pi_enum rfl (W.f 9 rfl) (pa_cons (pv 0) pa_nil)) (pg_tup rfl (pgs_cons (pg_name (i := 3) nd rfl (Or.inl rfl)) (pgs_cons (pg_name (i := 5) nd rfl (Or.inl rfl)) pgs_nil))) (pss_one (ps_for PassesOwn.never rfl (k_pi_tup K (pe_tup (pa_cons pe_int (pa_cons pe_int pa_nil)))) (pg_name (i := 6) nd rfl (Or.inl rfl)) (pss_cons (ps_par (i := 7) (j := 8) rfl nd rfl rfl (by decide) rfl rfl (pa_cons (pe_dyget K P w (hu_of hr) (pv 4) (pe_tup (pa_cons pe_str (pa_cons (pe_op op_add (pv 3) (pv 6)) pa_nil))) (fun _ _ => rfl)) (pa_cons (pe_dyget K P w (hu_of hr) (pv 4) (pe_tup (pa_cons pe_str (pa_cons (pe_op op_add (k_bm K PySem.F.plainAttrs_list PySem.F.slot_list_index PySem.F.type_list_index (k_index K) (pv 1) (pa_cons (pv 5) pa_nil)) (pv 6)) pa_nil))) (fun _ _ => rfl)) pa_nil)) rfl)
      (pss_one (ps_for PassesOwn.never rfl (k_pi_list K (pe_callB (cr_sortY K P w rfl hr.units) rfl (W.f 8 rfl) bb_sorted (pa_cons (pv 4) pa_nil))) (pg_name (i := 9) nd rfl (Or.inl rfl)) (pss_one (ps_if (pt_cmpR op_eq (pe_dyget K P w (hu_of hr) (pv 4) (pv 9) (fun _ _ => rfl)) (pv 8) (nomark _)) (pss_one (ps_dyput K P w (hu_of hr) (pv 4) (pv 9) (pv 7) rfl)) pss_nil))))))))
      (pss_cons (ps_set (i := 10) nd rfl (Or.inr rfl) pe_dnewK)
      (pss_cons (ps_for PassesOwn.never rfl (pi_range1 rfl (W.f 11 rfl) (pa_cons (pe_op op_add (pv 2) pe_int) pa_nil)) (pg_name (i := 3) nd rfl (Or.inl rfl)) (pss_one (ps_dput (hu_of hr) (pv 10) (pe_dyget K P w (hu_of hr) (pv 4) (pe_tup (pa_cons pe_str (pa_cons (pv 3) pa_nil))) (fun _ _ => rfl)) (pe_op (k_catT K) (pe_dget2 (hu_of hr) (pv 10) (pe_dyget K P w (hu_of hr) (pv 4) (pe_tup (pa_cons pe_str (pa_cons (pv 3) pa_nil))) (fun _ _ => rfl)) (pe_tup pa_nil) ⟨rfl, rfl, rfl, rfl⟩) (pe_tup (pa_cons (pv 3) pa_nil))) rfl)))
      (pss_one (ps_ret (pe_callB (k_sort K rfl hr.units) rfl (W.f 8 rfl) bb_sorted (pa_cons (pe_lock (pe_lc (own := [("_law_mark", 11)]) (g := (gName 11)) (tt := tYes) rfl nd (pi_keys (pv 10)) (blkOk_by (N := ["_law_upper", "_law_lower", "_law_size_here", "_law_at", "_law_glued", "_law_name", "_law_more", "_law_one", "_law_other", "_law_node", "_law_groups", "_law_mark"]) (sc := defScope (gF "_law_corners" 80).st) (by decide +kernel)) (fun _ _ _ _ _ => (pg_name (i := 11) nd rfl (by first | exact Or.inl rfl | exact Or.inr rfl))) (fun _ _ _ _ _ => pts_nil) (fun _ _ _ _ _ => (pe_dget (hu_of hr) (pv 10) (pv 11) (fun _ _ => rfl))))) pa_nil))))))))))), ?_⟩
  obtain ⟨a, b, u, l, rfl, ha, hb, z1, z2, lu, hm, q⟩ := h
  refine q_asg (v := .int (u.length : Int)) (ev_is (ev_len (ev_var rfl) (sq_of ha)) (by rw [List.length_map])) fun H1 e1 => ?_
  have gnd : ((gUps u.length).map (·.1)).Nodup := by
    unfold gUps
    rw [List.map_map]
    exact List.Pairwise.map _ (fun i j hij e => hij (by have := congrArg (fun e : End => e.2) e; simp at this; omega)) List.nodup_range
  refine q_dictY (gl := gUps u.length) (edL_is (edL_map (K := K) (ws := [3]) (j := 3) (fun d => match d with | .int i => .tuple [dB (true, i), .int i] | _ => .none) (edI_rng1 (n := (u.length : Int) + 1) (eva_cons (ev_op (ev_var rfl) ev_c rv_I0) eva_nil) (by omega)) (fun _ _ => exT) (by rw [rng_len]; omega) (fun _ => rfl) (fun d x H2 e2 hm2 r => ?_)) ?_) gnd (by simp [gUps]; omega) fun d H2 fd e2 dg => ?_
  · obtain ⟨i, hi⟩ := List.mem_iff_getElem?.mp hm2
    obtain ⟨_, rfl⟩ := rng_ix hi
    cases r
    exact ed_tup (eds_cons (ed_end (x := true) ev_c (ev_var rfl)) (eds_cons (ed_int (ev_var rfl)) eds_nil)) (by show 2 ≤ 100000; decide)
  · unfold rngD gUps
    rw [List.map_map, List.map_map, show ((u.length : Int) + 1).toNat = u.length + 1 by omega]
    refine List.map_congr_left fun i _ => ?_
    simp
  have e02 := e1.trans e2
  have hna : a ≠ d := fun z => by
    have := e1 _ _ ha
    rw [z, fd] at this
    exact nomatch this
  -- the loop of downs
  refine q_forD (K := K) (EdI.kt (K := K) (d := d) (edI_rng2 (lo := 1) (n := (u.length : Int)) (eva_cons ev_c (eva_cons (ev_var rfl) eva_nil)) (by omega) (by omega))) (fun H3 i σ' H' => ∃ y3, σ' = [some (.ref a), some (.ref b), some (.int (u.length : Int)), y3, some (.ref d), none, none, none, none, none, none, none] ∧ KT d H3 H' ∧ DG K P w H' d (gDowns u.length i))
    (fun H3 e3 => ⟨none, rfl, KT.refl _, ?_⟩) (fun H3 i σ' H' e3 hi pv => ?_) (fun H3 i d' x σ' H' H4 e3 hd' pv e4 r => ?_) (fun H3 σ' H' e3 pv => ?_)
  · have := dg.ext e3
    rw [show gDowns u.length 0 = gUps u.length by simp [gDowns]]
    exact this
  · obtain ⟨y3, rfl, kt, _⟩ := pv
    exact kt
  · obtain ⟨y3, rfl, kt, dgi⟩ := pv
    obtain ⟨hi, rfl⟩ := rng_ixL hd'
    cases r
    have new : (false, 1 + (i : Int)) ∉ (gDowns u.length i).map (·.1) := fun z => by
      rcases mem_gDowns.mp z with ⟨j, _, e⟩ | ⟨j, hj, e⟩
      · exact nomatch congrArg (fun e : End => e.1) e
      · have := congrArg (fun e : End => e.2) e
        simp at this
        omega
    have hl : (encG (gDowns u.length i)).length < 100000 := by simp [encG, gDowns, gUps]; omega
    refine s_yput (k := (false, 1 + (i : Int))) (v := .int ((u.length : Int) + (1 + (i : Int)))) (dgi.ext e4) (ev_op (ev_var rfl) (ev_var rfl) rv_I0) (ev_var rfl) (ed_end (x := false) ev_c (ev_var rfl)) hl fun H5 k5 dg5 => ?_
    refine ⟨_, rfl, (kt.trans (KT.ex e4)).trans k5, ?_⟩
    rw [putK_new _ (encG_none new), ← encG_app, ← gDowns_succ] at dg5
    exact dg5
  have n1 : ((u.length : Int) - 1).toNat = u.length - 1 := by omega
  obtain ⟨y3, rfl, kt3, dg3⟩ := pv
  rw [rng_len, n1] at dg3
  have ktH : KT d H2 H' := (KT.ex e3).trans kt3
  have hl3 : (encG (gDowns u.length (u.length - 1))).length < 90000 := by simp [encG, gDowns, gUps]; omega
  refine q_asg2Y (K := K) (P := P) (w := w) (d := d) (k1 := (false, 0)) (k2 := (false, (u.length : Int))) (v1 := .int 0) (v2 := .int (u.length : Int)) dg3 ev_c (ev_var rfl) (fun H1 => ev_var rfl) (fun H1 => ed_end (x := false) ev_c ev_c) (fun H1 => ev_var rfl) (fun H1 => ed_end (x := false) ev_c (ev_var rfl)) hl3 fun H4 k4 dg4 => ?_
  rw [putK_new _ (encG_none (gl := gDowns u.length (u.length - 1)) (k := (false, 0)) ?na), ← encG_app, putK_new _ (encG_none (gl := gDowns u.length (u.length - 1) ++ [((false, 0), 0)]) (k := (false, (u.length : Int))) ?nb), ← encG_app] at dg4
  case na =>
    intro z
    rcases mem_gDowns.mp z with ⟨j, _, e⟩ | ⟨j, hj, e⟩
    · exact nomatch congrArg (fun e : End => e.1) e
    · have := congrArg (fun e : End => e.2) e
      simp at this
      omega
  case nb =>
    rw [List.map_append, List.mem_append]
    rintro (z | z)
    · rcases mem_gDowns.mp z with ⟨j, _, e⟩ | ⟨j, hj, e⟩
      · exact nomatch congrArg (fun e : End => e.1) e
      · have := congrArg (fun e : End => e.2) e
        simp at this
        omega
    · have : (u.length : Int) = 0 := congrArg (fun e : End => e.2) (List.mem_singleton.mp z)
      omega
  have dg4 : DG K P w H4 d (gStart u.length) := dg4
  have kt4 : KT d H2 H4 := ktH.trans k4
  have lp : (plc u l).length = u.length := by unfold plc; rw [List.length_map]
  have ha4 : H4 a = some (.lst (u.map V.str)) := kt4.1 _ _ hna (e02 _ _ ha)
  refine q_forD (K := K) (edI_enS (d := d) (ev_var rfl) ha4 hna (rps_strs u)) (fun H5 i σ' H' => ∃ y3 y5 y6 y7 y8 y9, σ' = [some (.ref a), some (.ref b), some (.int (u.length : Int)), y3, some (.ref d), y5, y6, y7, y8, y9, none, none] ∧ KT d H5 H' ∧ DG K P w H' d (gRun (plc u l) i))
    (fun H5 e5 => ⟨_, none, none, none, none, none, rfl, KT.refl _, by rw [gRun, lp]; exact dg4.ext e5⟩) (fun H5 i σ' H' e5 hi pv => ?_) (fun H5 i d' x σ' H' H6 e5 hd' pv e6 r => ?_) (fun H5 σ' H' e5 pv => ?_)
  · obtain ⟨y3, y5, y6, y7, y8, y9, rfl, kt, _⟩ := pv
    exact kt
  · obtain ⟨y3, y5, y6, y7, y8, y9, rfl, kt, dgi⟩ := pv
    have hi : i < u.length := by
      have := (List.getElem?_eq_some_iff.mp hd').1
      rwa [enD_len, List.length_map] at this
    obtain rfl : d' = .tuple [.int (i : Nat), .str u[i]] := by
      have := enD_at (ds := u.map PyData.str) (i := i) (d := .str u[i]) (by rw [List.getElem?_map, List.getElem?_eq_getElem hi] <;> rfl)
      rw [this] at hd'
      exact (Option.some.inj hd').symm
    refine g_pair r fun v w' r1 r2 => ?_
    cases r1
    cases r2
    have mi : u[i] ∈ u := List.getElem_mem hi
    have kt6 : KT d H5 H6 := kt.trans (KT.ex e6)
    have ep : (plc u l).getD i 0 = (l.idxOf u[i] : Nat) := by
      unfold plc
      rw [List.getD_eq_getElem?_getD, List.getElem?_map, List.getElem?_eq_getElem hi] <;> rfl
    have hpos : l.idxOf u[i] < u.length := by
      rw [← lu]
      exact List.idxOf_lt_length_iff.mpr (hm _ mi)
    have ks0 : (gRun (plc u l) i).map (·.1) = (gStart u.length).map (·.1) := by rw [gRun_keys, lp]
    -- the inner state
    let mid : Nat → GL := fun m => match m with
      | 0 => gRun (plc u l) i
      | 1 => gStep (gRun (plc u l) i) i 0 (l.idxOf u[i] : Nat)
      | _ => gTwo (gRun (plc u l) i) i (l.idxOf u[i] : Nat)
    have midk : ∀ m, (mid m).map (·.1) = (gStart u.length).map (·.1) := fun m => by
      match m with
      | 0 => exact ks0
      | 1 => exact (gStep_keys _ _ _ _).trans ks0
      | m + 2 => exact (gTwo_keys _ _ _).trans ks0
    refine s_forD (K := K) (ds := [.int 0, .int 1]) (EdI.kt (K := K) (d := d) (edI_tup (ed_tup (eds_cons (ed_int ev_c) (eds_cons (ed_int ev_c) eds_nil)) (by show 2 ≤ 100000; decide)))) (fun H7 m σ' H' => ∃ y6 y7 y8 y9, σ' = [some (.ref a), some (.ref b), some (.int (u.length : Int)), some (.int (i : Nat)), some (.ref d), some (.str u[i]), y6, y7, y8, y9, none, none] ∧ KT d H7 H' ∧ DG K P w H' d (mid m))
      (fun H7 e7 => ⟨_, _, _, _, rfl, KT.refl _, (dgi.ext e6).ext e7⟩) (fun H7 m σ' H' e7 hi pv => ?_) (fun H7 m d' x σ' H' H8 e7 hd' pv e8 r => ?_) (fun H7 σ' H' e7 pv => ?_)
    · obtain ⟨y6, y7, y8, y9, rfl, kt, _⟩ := pv
      exact kt
    · obtain ⟨y6, y7, y8, y9, rfl, kt, dgm⟩ := pv
      have hm2 : m < 2 := (List.getElem?_eq_some_iff.mp hd').1
      obtain rfl : d' = .int (m : Nat) := by
        match m, hm2 with
        | 0, _ => exact (Option.some.inj hd').symm
        | 1, _ => exact (Option.some.inj hd').symm
      cases r
      have ktm : KT d H7 H8 := kt.trans (KT.ex e8)
      have dg8 : DG K P w H8 d (mid m) := dgm.ext e8
      have hb8 : H8 b = some (.lst (l.map V.str)) := by
        have hnb : b ≠ d := fun z => by
          have := e1 _ _ hb
          rw [z, fd] at this
          exact nomatch this
        exact ((((kt4.trans (KT.ex e5)).trans kt6).trans (KT.ex e7)).trans ktm).1 _ _ hnb (e02 _ _ hb)
      have m1 : (true, (i : Int) + (m : Int)) ∈ (mid m).map (·.1) := by
        rw [midk, ← Int.natCast_add]
        exact mem_gStart (by omega)
      have m2 : (false, ((l.idxOf u[i] : Nat) : Int) + (m : Int)) ∈ (mid m).map (·.1) := by
        rw [midk, ← Int.natCast_add]
        exact mem_gStart (by omega)
      have ends : mid (m + 1) = gStep (mid m) i m (l.idxOf u[i] : Nat) := by
        match m, hm2 with
        | 0, _ => rfl
        | 1, _ => rfl
      refine q_parD (K := K) (eds_cons (ed_int (ev_yget (k := (true, (i : Int) + (m : Int))) (ev_var rfl) dg8 (ed_end (x := true) ev_c (ev_op (ev_var rfl) (ev_var rfl) rv_I0)) m1)) (eds_cons (ed_int (ev_yget (k := (false, ((l.idxOf u[i] : Nat) : Int) + (m : Int))) (ev_var rfl) dg8 (ed_end (x := false) ev_c (ev_op (ev_indexS (ev_var rfl) (sq_of hb8) (ev_var rfl) (hm _ mi)) (ev_var rfl) rv_I0)) m2)) eds_nil)) fun v w' H9 e9 r1 r2 => ?_
      cases r1
      cases r2
      have ends2 : mid (m + 1) = mrg gAll (mid m) (gget (mid m) (true, (i : Int) + (m : Int))) (gget (mid m) (false, ((l.idxOf u[i] : Nat) : Int) + (m : Int))) := ends
      generalize gget (mid m) (true, (i : Int) + (m : Int)) = one at ends2 ⊢
      generalize gget (mid m) (false, ((l.idxOf u[i] : Nat) : Int) + (m : Int)) = other at ends2 ⊢
      have ndm : ((mid m).map (·.1)).Nodup := by
        have := dg8.nd
        rwa [encG_keys] at this
      have dg9 := dg8.ext e9
      obtain ⟨xs9, hd9, _⟩ := dg9.ex
      obtain ⟨ks, hks⟩ : ∃ ks, ks = sortY ((mid m).map (·.1)) := ⟨_, rfl⟩
      have ksp : ks.Perm ((mid m).map (·.1)) := hks ▸ sortY_perm _
      have ksn : ks.Nodup := ksp.nodup_iff.mpr ndm
      refine s_forD (K := K) (edI_newS (d := d) hd9 (edL_is (edL_sortY (ev_var rfl) dg9) (congrArg (List.map dB) hks.symm))) (fun H10 j σ' H' => ∃ y9, σ' = [some (.ref a), some (.ref b), some (.int (u.length : Int)), some (.int (i : Nat)), some (.ref d), some (.str u[i]), some (.int (m : Nat)), some (.int one), some (.int other), y9, none, none] ∧ KT d H10 H' ∧ DG K P w H' d (mrg (fun k => decide (k ∈ ks.take j)) (mid m) one other))
        (fun H10 e10 => ⟨_, rfl, KT.refl _, ?_⟩) (fun H10 j σ' H' e10 hj pv => ?_) (fun H10 j d' x σ' H' H11 e10 hd' pv e11 r => ?_) (fun H10 σ' H' e10 pv => ?_)
      · have := dg9.ext e10
        rw [mrg_congr (S' := fun _ => false) (fun k _ => by simp), mrg_none]
        exact this
      · obtain ⟨y9, rfl, kt, _⟩ := pv
        exact kt
      · obtain ⟨y9, rfl, kt10, dg10⟩ := pv
        have hj : j < ks.length := by
          have := (List.getElem?_eq_some_iff.mp hd').1
          rwa [List.length_map] at this
        obtain rfl : d' = dB ks[j] := by
          rw [List.getElem?_map, List.getElem?_eq_getElem hj] at hd'
          exact (Option.some.inj hd').symm
        have kt11 : KT d H10 H11 := kt10.trans (KT.ex e11)
        have dg11 := dg10.ext e11
        have mk : ks[j] ∈ (mid m).map (·.1) := ksp.mem_iff.mp (List.getElem_mem hj)
        have nk : ks[j] ∉ ks.take j := fun z => by
          obtain ⟨t, ht, e⟩ := List.getElem_of_mem z
          rw [List.length_take] at ht
          rw [List.getElem_take] at e
          exact List.pairwise_iff_getElem.mp ksn t j (by omega) hj (by omega) e
        have hS' : ∀ k, decide (k ∈ ks.take (j + 1)) = (decide (k ∈ ks.take j) || decide (k = ks[j])) := fun k => by
          rw [List.take_succ, List.getElem?_eq_getElem hj]
          simp only [Option.toList_some, List.mem_append, List.mem_singleton]
          by_cases h1 : k ∈ ks.take j <;> by_cases h2 : k = ks[j] <;> simp [h1, h2]
        have gv : gget (mrg (fun k => decide (k ∈ ks.take j)) (mid m) one other) ks[j] = gget (mid m) ks[j] := by
          rw [mrg_get _ _ _ _ _ mk, decide_eq_false nk]
          simp
        have mk2 : ks[j] ∈ (mrg (fun k => decide (k ∈ ks.take j)) (mid m) one other).map (·.1) := by rw [mrg_keys]; exact mk
        refine s_when (b := decide (gget (mid m) ks[j] = other)) (et_is (et_test (ev_op (ev_is (ev_yget (k := ks[j]) (ev_var rfl) dg11 (ed_var rfl r) mk2) (congrArg V.int gv)) (ev_var rfl) (rv_eq rfl))) ?_) (fun hb' H12 e12 => ?_) (fun hb' H12 e12 => ?_)
        · rw [Bool.eq_iff_iff]
          simp
        · have hz : (encG (mrg (fun k => decide (k ∈ ks.take j)) (mid m) one other)).length < 100000 := by
            have h1 : (encG (mrg (fun k => decide (k ∈ ks.take j)) (mid m) one other)).length = ((gStart u.length).map (·.1)).length := by
              rw [← midk m]
              simp [encG, mrg]
            rw [h1]
            simp [gStart, gDowns, gUps]
            omega
          refine s_yput (k := ks[j]) (v := .int one) (dg11.ext e12) (ev_var rfl) (ev_var rfl) (ed_var rfl (r.ex e12)) hz fun H13 k13 dg13 => ⟨_, rfl, (kt11.trans (KT.ex e12)).trans k13, ?_⟩
          rw [mrg_put ndm mk (decide_eq_false nk) hS' (of_decide_eq_true hb')] at dg13
          exact dg13
        · refine ⟨_, rfl, kt11.trans (KT.ex e12), ?_⟩
          have := dg11.ext e12
          rw [mrg_not ndm hS' (of_decide_eq_false hb')] at this
          exact this
      · obtain ⟨y9, rfl, kt10, dg10⟩ := pv
        refine ⟨_, _, _, _, rfl, ktm.trans (((KT.ex e9).trans (KT.ex e10)).trans kt10), ?_⟩
        rw [List.length_map, List.take_length, mrg_congr (S' := gAll) (fun k hk => by rw [decide_eq_true (ksp.mem_iff.mpr hk)] <;> rfl), ← ends2] at dg10
        exact dg10
    · obtain ⟨y6, y7, y8, y9, rfl, kt7, dg7⟩ := pv
      refine ⟨_, _, _, _, _, _, rfl, kt6.trans ((KT.ex e7).trans kt7), ?_⟩
      rw [gRun, ep]
      exact dg7
  · obtain ⟨y3, y5, y6, y7, y8, y9, rfl, kt5, dg5⟩ := pv
    rw [enD_len, List.length_map] at dg5
    obtain ⟨xs5, hd5, _⟩ := dg5.ex
    refine q_asgNK fun gq fq => ?_
    have hdq : d ≠ gq := fun z => by
      rw [z, fq] at hd5
      exact nomatch hd5
    have dg6 := dg5.ext (Ex.new (o := .dK []) fq)
    have hq6 : upd H' gq (.dK []) gq = some (.dK []) := upd_same
    have e06 : Ex H (upd H' gq (.dK [])) := fun b' o hb' => by
      have hne : b' ≠ d := fun z => by
        have := e1 _ _ hb'
        rw [z, fd] at this
        exact nomatch this
      exact Ex.new fq _ _ (((kt4.trans (KT.ex e5)).trans kt5).1 _ _ hne (e02 _ _ hb'))
    generalize upd H' gq (.dK []) = H6 at dg6 hq6 e06 ⊢
    have fgq : H gq = none := by
      cases hz : H gq with
      | none => rfl
      | some o =>
        have hne : gq ≠ d := fun z => hdq z.symm
        have := ((kt4.trans (KT.ex e5)).trans kt5).1 _ _ hne (e02 _ _ hz)
        rw [fq] at this
        exact nomatch this
    have kend : (gRun (plc u l) u.length).map (·.1) = (gStart u.length).map (·.1) := by rw [gRun_keys, lp]
    generalize hgl : gRun (plc u l) u.length = gl at dg6 kend
    refine q_forD (K := K) (EdI.kt (K := K) (d := gq) (edI_rng1 (n := (u.length : Int) + 1) (eva_cons (ev_op (ev_var rfl) ev_c rv_I0) eva_nil) (by omega))) (fun H7 i σ' H' => ∃ y3, σ' = [some (.ref a), some (.ref b), some (.int (u.length : Int)), y3, some (.ref d), y5, y6, y7, y8, y9, some (.ref gq), none] ∧ KT gq H7 H' ∧ ∃ kvs, H' gq = some (.dK kvs) ∧ PG K H' kvs (grps gl i))
      (fun H7 e7 => ⟨_, rfl, KT.refl _, [], e7 _ _ hq6, .nil⟩) (fun H7 i σ' H' e7 hi pv => ?_) (fun H7 i d' x σ' H' H8 e7 hd' pv e8 r => ?_) (fun H7 σ' H' e7 pv => ?_)
    · obtain ⟨y3, rfl, kt, _⟩ := pv
      exact kt
    · obtain ⟨y3, rfl, kt7, kvs, hk7, pg7⟩ := pv
      have hi := (List.getElem?_eq_some_iff.mp hd').1
      rw [rng_len] at hi
      obtain ⟨_, rfl⟩ := rng_ix hd'
      cases r
      have kt8 : KT gq H7 H8 := kt7.trans (KT.ex e8)
      have dg8 : DG K P w H8 d gl := (dg6.ext e7).kt hdq kt8
      have mk : (true, (i : Int)) ∈ gl.map (·.1) := by rw [kend]; exact mem_gStart (by omega)
      have hkey : ∀ {σ : L2.St} {H9 : Hp}, Ex H8 H9 → σ[4]? = some (some (.ref d)) → σ[3]? = some (some (.int (i : Int))) → Ev (tDyGet K P w (tVar 4) (tTup (tCons (tC (.str "up")) (tCons (tVar 3) tNil)))) σ H9 (.int (gget gl (true, (i : Int)))) := fun e9 h4 h3 => ev_yget (k := (true, (i : Int))) (ev_var h4) (dg8.ext e9) (ed_end (x := true) ev_c (ev_var h3)) mk
      have lk : kvs.length < 100000 := by
        have := grps_len gl i
        rw [pg7.len]
        omega
      have lg := gold_sz (grps_sz gl i) (gget gl (true, (i : Int)))
      refine s_dputD (k := gget gl (true, (i : Int))) (dt := encT (gold (grps gl i) (gget gl (true, (i : Int))) ++ [(i : Int)])) (e8 _ _ hk7) (ed_is (ed_catT (ed_gget (k := gget gl (true, (i : Int))) (ev_var rfl) (e8 _ _ hk7) (pg7.up (exT e8)) (hkey (Ex.refl _) rfl rfl) (ed_tup eds_nil (Nat.zero_le _))) (ed_tup (eds_cons (ed_int (ev_var rfl)) eds_nil) (by show 1 ≤ 100000; decide)) (by rw [List.length_map]; show _ + 1 ≤ 100000; omega)) ?_) (ev_var rfl) (hkey (Ex.refl _) rfl rfl) lk fun v H9 e9 r9 => ?_
      · show PyData.tuple _ = PyData.tuple _
        rw [List.map_append] <;> rfl
      · have tx : TEx H9 (upd H9 gq (.dK (putK kvs (.inl (gget gl (true, (i : Int)))) v))) := TEx.dk (e9 _ _ (e8 _ _ hk7))
        refine ⟨_, rfl, (kt8.trans (KT.ex e9)).trans (KT.put (fun b hb => upd_ne hb) tx), _, upd_same, ?_⟩
        exact ((pg7.up (exT (e8.trans e9))).put (grps_nodup gl i) r9).up tx
    · obtain ⟨y3, rfl, kt7, kvs, hk7, pg7⟩ := pv
      rw [rng_len, show ((u.length : Int) + 1).toNat = u.length + 1 by omega] at pg7
      have e07 : Ex H H' := fun b' o hb' => by
        have hne : b' ≠ gq := fun z => by
          rw [z, fgq] at hb'
          exact nomatch hb'
        exact kt7.1 _ _ hne (e7 _ _ (e06 _ _ hb'))
      have gne := grps_ne gl (u.length + 1)
      have gln := grps_len gl (u.length + 1)
      refine s_retM (edL_is (edL_sortL (edL_is (es := (cornL (plc u l)).map encT) (edL_vals (i := 11) (j := 10) (ws := [11]) (fun _ => ev_var rfl) hk7 pg7 (grps_nodup gl _) (by omega) (fun _ => rfl) (fun _ => rfl) (fun _ => rfl)) ?_) (sortOk_tI ?_ ?_)) (sortD_tI _)) fun p vs H8 f8 e8 h8 r8 => q p vs H8 (fresh_back e07 f8) (e07.trans e8) h8 r8
      · unfold cornL
        rw [lp, hgl, List.map_map]
        rfl
      · unfold cornL
        rw [lp, hgl, List.length_map]
        omega
      · unfold cornL
        rw [lp, hgl]
        intro g hg
        obtain ⟨p, hp, rfl⟩ := List.mem_map.mp hg
        exact gne p hp
end PR
end
section
set_option Elab.async false
set_option linter.all false
set_option maxRecDepth 100000
set_option maxHeartbeats 4000000
/-! The law's angles and marks. -/
namespace PR
open PySem PySem.Spec PyProof.Rows L2 Evl
abbrev scAng : Scope := { kind := ScopeKind.function, names := [(Str.ofString ".0", NameKind.local), (Str.ofString "_law_group", NameKind.local), (Str.ofString "len", NameKind.globalImplicit), (Str.ofString "_law_upper", NameKind.cell)], isGenerator := false, isCoroutine := false }
def cntF (n : Nat) (g : List Int) : Int := ((g.filter fun i => decide (0 < i) && decide (i < (n : Int))).length : Nat)
def langF (pl : List Int) : List Int := (sortP (cornL pl)).map (cntF pl.length)
theorem langF_ne (pl : List Int) : langF pl ≠ [] := by
  unfold langF cornL
  intro h
  have h1 := congrArg List.length h
  have h0 : ∀ gs, (sortP gs).length = gs.length := fun gs => (List.mergeSort_perm _ _).length_eq
  rw [List.length_map, h0, List.length_map] at h1
  have h2 : grps (gRun pl pl.length) (pl.length + 1) = [] := List.length_eq_zero_iff.mp h1
  rw [grps] at h2
  unfold addG at h2
  split at h2
  · rename_i hy
    rw [List.map_eq_nil_iff] at h2
    rw [h2] at hy
    exact nomatch hy
  · simp at h2
def spLAng (K : PySem.W.Frag) : Sp := fun vs H Q _ => ∃ (a b : Addr) (u l : List Str), vs = [.ref a, .ref b] ∧ H a = some (.lst (u.map V.str)) ∧ H b = some (.lst (l.map V.str)) ∧ u.length ≤ 6 ∧ 2 ≤ u.length ∧ l.length = u.length ∧ (∀ x ∈ u, x ∈ l) ∧
  ∀ T p H', Ex H H' → H' T = some (.tup [.ref p, .int ((langF (plc u l)).headD 0)]) → H' p = some (.lst ((sortI (langF (plc u l))).map V.int)) → Q (.ref T) H'
theorem sc__law_angles : FnScope ["_law_upper", "_law_lower", "_law_groups", "_law_found", "_law_group", "_law_at"] ["_law_upper", "_law_lower"] (defScope (gF "_law_angles" 81).st) := ⟨rfl, rfl, rfl, by decide +kernel, rfl, by decide +kernel, by decide +kernel⟩
theorem c__law_angles {P : Program} {w : World} {K : PySem.W.Frag} {mg : Str → Option Value} {base : Heap} (W : W0 K mg base) : Cal P w K mg base 2 (gF "_law_angles" 81) ["_law_upper", "_law_lower"] (spLAng K) := by
  refine Cal.of W 65 rfl sc__law_angles (fun vs H Q E h => ?len) (fun _ _ _ _ _ _ us hl => match us, hl with | [_, _], _ => rfl) (fun cdv A outer s H vs Q E hr h => ?body)
  case len => obtain ⟨_, _, _, _, rfl, _⟩ := h; rfl
  have nd := sc__law_angles.nd
  refine ⟨_, (pss_cons (ps_set (i := 2) nd rfl (Or.inl rfl) (k_cal K (c__law_corners W) (hr.mono (by decide)) rfl (W.g 53 rfl) (pa_cons (pv 0) (pa_cons (pv 1) pa_nil))))
      (pss_cons (ps_setLc (own := [("_law_group", 4)]) (g := (gName 4)) (tt := tYes) (i := 3) rfl nd rfl rfl (sw_true rfl rfl rfl (by decide +kernel)) (k_pi_list K (pv 2)) (blkOk_by (N := ["_law_upper", "_law_lower", "_law_groups", "_law_found", "_law_group", "_law_at"]) (sc := defScope (gF "_law_angles" 81).st) (by decide +kernel)) (fun _ _ _ _ _ => (pg_name (i := 4) nd rfl (by first | exact Or.inl rfl | exact Or.inr rfl))) (fun _ _ _ _ _ => pts_nil) (fun _ _ _ _ _ => (pe_callB (k_len K) rfl (W.f 0 rfl) bb_len (pa_cons (pe_lc (own := [("_law_at", 5)]) (g := (gName 5)) rfl nd (k_pi_tup K (pv 4)) (blkOk_by (N := ["_law_upper", "_law_lower", "_law_groups", "_law_found", "_law_group", "_law_at"]) (sc := scAng) (by decide +kernel)) (fun _ _ _ _ _ => (pg_name (i := 5) nd rfl (by first | exact Or.inl rfl | exact Or.inr rfl))) (fun _ _ _ _ _ => (pts_one (pt_chain op_lt op_lt pe_int (pv 5) (pe_callB (k_len K) rfl (W.f 0 rfl) bb_len (pa_cons (pv 0) pa_nil))))) (fun _ _ _ _ _ => (pv 5))) pa_nil))))
      (pss_one (ps_ret (pe_tup (pa_cons (pe_callB (k_sort K rfl hr.units) rfl (W.f 8 rfl) bb_sorted (pa_cons (pv 3) pa_nil)) (pa_cons (pe_ix (k_ixL K) (pv 3) pe_int (fun _ _ => rfl)) pa_nil))))))), ?_⟩
  obtain ⟨a, b, u, l, rfl, ha, hb, z1, z2, lu, hm, q⟩ := h
  refine ⟨_, rfl, _, rfl, ?_⟩
  refine ⟨a, b, u, l, rfl, ha, hb, z1, z2, lu, hm, fun p vs H1 f1 e1 h1 r1 => ?_⟩
  have lp : (plc u l).length = u.length := by unfold plc; rw [List.length_map]
  have ll : (sortP (cornL (plc u l))).length ≤ 7 := by
    have h0 : ∀ gs, (sortP gs).length = gs.length := fun gs => (List.mergeSort_perm _ _).length_eq
    have := grps_len (gRun (plc u l) (plc u l).length) ((plc u l).length + 1)
    rw [h0]
    unfold cornL
    rw [List.length_map]
    omega
  have hsz : ∀ g ∈ sortP (cornL (plc u l)), g.length ≤ 7 := fun g hg => by
    have h1 : g ∈ cornL (plc u l) := (List.mergeSort_perm _ _).mem_iff.mp hg
    unfold cornL at h1
    obtain ⟨p, hp, rfl⟩ := List.mem_map.mp h1
    have := grps_sz _ _ p hp
    omega
  have hne := langF_ne (plc u l)
  refine q_asgM (edL_is (es := (langF (plc u l)).map PyData.int) (edL_map (K := K) (ws := [4]) (j := 4) (fun d => match d with | .tuple ds => .int ((ds.filter fun e => match e with | .int i => decide (0 < i) && decide (i < (u.length : Int)) | _ => false).length : Nat) | _ => .none) (edI_list (ev_var rfl) (sq_of h1) r1) (fun _ _ e => e) (by rw [List.length_map]; omega) (fun _ => rfl) fun d x H2 e2 hm2 r2 => ?_) ?_) fun p2 ws H2 f2 e2 h2 r2 => ?_
  · obtain ⟨g, hg, rfl⟩ := List.mem_map.mp hm2
    have := hsz g hg
    refine ed_int (ev_is (ev_lenL (edL_flt (K := K) (ws := [5]) (j := 5) (fun e => match e with | .int i => decide (0 < i) && decide (i < (u.length : Int)) | _ => false) id (edI_tup (ed_var rfl r2)) (fun _ _ => exT) (by rw [List.length_map]; omega) (fun _ => rfl) fun d y H3 e3 hm3 r3 => ?_)) ?_)
    · obtain ⟨i, hi, rfl⟩ := List.mem_map.mp hm3
      cases r3
      exact ⟨et_test (ev_chain (ev_c) (ev_var rfl) (ev_is (ev_len (ev_var rfl) (sq_of ((e1.trans (e2.trans e3)) _ _ ha))) (by rw [List.length_map])) rfl), fun _ => ed_int (ev_var rfl)⟩
    · rw [List.map_id]
  · unfold langF
    rw [List.map_map, List.map_map, lp]
    refine List.map_congr_left fun g hg => ?_
    show PyData.int _ = PyData.int (cntF u.length g)
    unfold cntF
    rw [List.filter_map, List.length_map]
    rfl
  · obtain rfl := r2.ints
    have l2 : (langF (plc u l)).length ≤ 7 := by unfold langF; rw [List.length_map]; exact ll
    refine (edL_is (edL_sortLs (ev_var rfl) (sq_of h2) (rps_ints _) (sortOk_ints (by omega))) (sortD_ints _) : EdL K (tCB (rSortD K) (tCons (tVar 3) tNil)) [some (.ref a), some (.ref b), some (.ref p), some (.ref p2), none, none] H2 _) H2 (Ex.refl _) _ fun p3 ws3 H3 f3 e3 h3 r3 => ?_
    obtain rfl := r3.ints
    refine (ev_op (ev_var rfl) ev_c (rv_ixL (sq_of (e3 _ _ h2)) (v := .int ((langF (plc u l)).headD 0)) ?_) : Ev (tOp (rIxL K) (tVar 3) (tC (.int 0))) [some (.ref a), some (.ref b), some (.ref p), some (.ref p2), none, none] H3 _) H3 (Ex.refl _) _ fun H4 e4 => ?_
    · cases hl : langF (plc u l) with
      | nil => exact absurd hl hne
      | cons x r => exact atI_nat (j := 0) rfl
    · exact ⟨sz_of (by show 2 ≤ 100000; decide), fun T hT => q T p3 _ ((((e1.trans e2).trans e3).trans e4).trans (Ex.new hT)) upd_same ((Ex.new hT) _ _ (e4 _ _ h3))⟩
def lmarkF (u l : List Str) : List Int × Int × Int := (sortI (langF (plc u l)), (langF (plc u l)).headD 0, lparF u l)
def spLMk (K : PySem.W.Frag) : Sp := fun vs H Q _ => ∃ (a b : Addr) (u l : List Str), vs = [.ref a, .ref b] ∧ H a = some (.lst (u.map V.str)) ∧ H b = some (.lst (l.map V.str)) ∧ u.length ≤ 6 ∧ 2 ≤ u.length ∧ l.length = u.length ∧ (∀ x ∈ u, x ∈ l) ∧
  ∀ v H', Ex H H' → Rp K H' v (mkD (lmarkF u l)) → Q v H'
theorem sc__law_marks : FnScope ["_law_upper", "_law_lower", "_law_told"] ["_law_upper", "_law_lower"] (defScope (gF "_law_marks" 84).st) := ⟨rfl, rfl, rfl, by decide +kernel, rfl, by decide +kernel, by decide +kernel⟩
theorem c__law_marks {P : Program} {w : World} {K : PySem.W.Frag} {mg : Str → Option Value} {base : Heap} (W : W0 K mg base) : Cal P w K mg base 3 (gF "_law_marks" 84) ["_law_upper", "_law_lower"] (spLMk K) := by
  refine Cal.of W 68 rfl sc__law_marks (fun vs H Q E h => ?len) (fun _ _ _ _ _ _ us hl => match us, hl with | [_, _], _ => rfl) (fun cdv A outer s H vs Q E hr h => ?body)
  case len => obtain ⟨_, _, _, _, rfl, _⟩ := h; rfl
  have nd := sc__law_marks.nd
  refine ⟨_, (pss_cons (ps_set (i := 2) nd rfl (Or.inl rfl) (k_cal K (c__law_angles W) (hr.mono (by decide)) rfl (W.g 54 rfl) (pa_cons (pv 0) (pa_cons (pv 1) pa_nil))))
      (pss_one (ps_ret (pe_tup (pa_cons (pe_callTy (k_tuple K) rfl (W.f 2 rfl) bb_tuple (pa_cons (pe_ix (k_ixT K) (pv 2) pe_int (fun _ _ => rfl)) pa_nil)) (pa_cons (pe_ix (k_ixT K) (pv 2) pe_int (fun _ _ => rfl)) (pa_cons (k_cal K (c__law_parity W) (hr.mono (by decide)) rfl (W.g 56 rfl) (pa_cons (pv 0) (pa_cons (pv 1) pa_nil))) pa_nil))))))), ?_⟩
  obtain ⟨a, b, u, l, rfl, ha, hb, z1, z2, lu, hm, q⟩ := h
  refine ⟨_, rfl, _, rfl, ?_⟩
  refine ⟨a, b, u, l, rfl, ha, hb, z1, z2, lu, hm, fun T p H1 e1 hT hp => ?_⟩
  have par : ∀ {σ : L2.St} {H2 : Hp}, Ex H1 H2 → σ[0]? = some (some (.ref a)) → σ[1]? = some (some (.ref b)) → Ev (tCall (spLPar K) [] E0 (tCons (tVar 0) (tCons (tVar 1) tNil))) σ H2 (.int (lparF u l)) := fun e2 h0 h1 H3 e3 Q q =>
    ⟨_, h0, _, h1, a, b, u, l, rfl, ((e1.trans e2).trans e3) _ _ ha, ((e1.trans e2).trans e3) _ _ hb, z1, hm, fun H4 e4 => q H4 e4⟩
  refine s_retD (d := mkD (lmarkF u l)) (ed_tup (eds_cons (ed_tupLs (ev_op (ev_var rfl) ev_c (rv_ixT (SqT.of hT) (v := .ref p) (atI_nat (j := 0) rfl))) (sq_of hp) (rps_ints _)) (eds_cons (ed_int (ev_op (ev_var rfl) ev_c (rv_ixT (SqT.of hT) (atI_nat (j := 1) rfl)))) (eds_cons (ed_int (par (Ex.refl _) rfl rfl)) eds_nil))) (by show 3 ≤ 100000; decide)) fun v H2 e2 r2 => q v H2 (e1.trans e2) r2
end PR
end
section
set_option Elab.async false
set_option linter.all false
set_option maxRecDepth 100000
set_option maxHeartbeats 4000000
/-! is_closed. -/
namespace PR
open PySem PySem.Spec PyProof.Rows L2 Evl
def ascB : List (List Int) → Bool
  | [] => true
  | [_] => true
  | p :: q :: r => HT.lexLt p q && ascB (q :: r)
def closedF (ps : List (List Int)) : Bool := !ps.isEmpty && (ascB ps && ps.all fun p => decide (nextI true p ∈ ps) && decide (nextI false p ∈ ps))
theorem ev_placesC {K : PySem.W.Frag} {σ : L2.St} {H : Hp} {ta tb : TE} {ns : List Int} (h1 : Ed K ta σ H (tI ns)) (h2 : Ev tb σ H (.int 7)) (z1 : 2 ≤ ns.length) (z2 : ns.length ≤ 7) (pm : ns.Perm ((List.range ns.length).map fun i : Nat => (i : Int))) (pf : prefOk ns) :
    Ev (tCall (spPlaces K) [] E0 (tCons ta (tCons tb tNil))) σ H (.bl true) := fun H1 e Q q =>
  h1 H1 e _ fun v H2 e2 r => h2 H2 (e.trans e2) _ fun H3 e3 => ⟨v, ns, rfl, r.ex e3, z1, z2, pm, pf, fun H4 e4 => q H4 ((e2.trans e3).trans e4)⟩
def intD : PyData → Int
  | .int i => i
  | _ => 0
theorem intD_map (p : List Int) : (p.map PyData.int).map intD = p := by
  rw [List.map_map]
  exact List.map_id _
def ltD : PyData → PyData
  | .tuple [.tuple a, .tuple b] => .bool (HT.lexLt (a.map intD) (b.map intD))
  | _ => .none
theorem asc_all : ∀ ps : List (List Int), ((ps.zip (ps.drop 1)).map fun pq => HT.lexLt pq.1 pq.2).all id = ascB ps
  | [] => rfl
  | [_] => rfl
  | p :: q :: r => by
    have ih := asc_all (q :: r)
    show (HT.lexLt p q && (((q :: r).zip ((q :: r).drop 1)).map fun pq => HT.lexLt pq.1 pq.2).all id) = (HT.lexLt p q && ascB (q :: r))
    rw [ih]
def isUp : PyData → Bool
  | .str s => decide (s = kindS true)
  | _ => false
structure PlOk (n : Nat) (p : List Int) : Prop where
  len : p.length = n
  pm : p.Perm ((List.range n).map fun i : Nat => (i : Int))
  pf : prefOk p
def spClosed (K : PySem.W.Frag) : Sp := fun vs H Q _ => ∃ v n ps, vs = [.int (n : Nat), v] ∧ 2 ≤ n ∧ n ≤ 7 ∧ IsPs K H v ps ∧ (∀ p ∈ ps, PlOk n p) ∧ ps.length ≤ 299 ∧ ∀ H', Ex H H' → Q (.bl (closedF ps)) H'
theorem sc_is_closed : FnScope ["many", "value", "known", "one", "kind", "other"] ["many", "value"] (defScope (gF "is_closed" 67).st) := ⟨rfl, rfl, rfl, by decide +kernel, rfl, by decide +kernel, by decide +kernel⟩
theorem c_is_closed {P : Program} {w : World} {K : PySem.W.Frag} {mg : Str → Option Value} {base : Heap} (W : W0 K mg base) : Cal P w K mg base 5 (gF "is_closed" 67) ["many", "value"] (spClosed K) := by
  refine Cal.of W 52 rfl sc_is_closed (fun vs H Q E h => ?len) (fun _ _ _ _ _ _ us hl => match us, hl with | [_, _], _ => rfl) (fun cdv A outer s H vs Q E hr h => ?body)
  case len => obtain ⟨_, _, _, rfl, _⟩ := h; rfl
  have nd := sc_is_closed.nd
  refine ⟨_, (pss_cons (ps_expr (k_cal K (c_require_count W) (hr.mono (by decide)) rfl (W.g 3 rfl) (pa_cons (pv 0) (pa_cons pe_int (pa_cons (pe_gi rfl (W.i 3 rfl)) pa_nil)))))
      (pss_cons (ps_if (PW.pt (pw_or (pt_not (pt_val (pe_callB (k_isi K) rfl (W.f 1 rfl) bb_isinstance (pa_cons (pv 1) (pa_cons (pe_bltn rfl (W.f 2 rfl) bb_tuple relTy) pa_nil))))) (pw_or1 (pt_cmpR (k_eqD K hr.units) (pv 1) (pe_tup pa_nil) (nomark _))))) (pss_one (ps_ret pe_bl)) pss_nil)
      (pss_cons (ps_if (pt_not (pt_val (pe_callB (k_all K rfl) rfl (W.f 6 rfl) bb_all (pa_cons (pe_lc (own := [("one", 3)]) (g := (gName 3)) (tt := tYes) rfl nd (k_pi_tup K (pv 1)) (blkOk_by (N := ["many", "value", "known", "one", "kind", "other"]) (sc := defScope (gF "is_closed" 67).st) (by decide +kernel)) (fun _ _ _ _ _ => (pg_name (i := 3) nd rfl (by first | exact Or.inl rfl | exact Or.inr rfl))) (fun _ _ _ _ _ => pts_nil) (fun _ _ _ _ _ => (pe_and (k_cal K (c_are_places W) (hr.mono (by decide)) rfl (W.g 30 rfl) (pa_cons (pv 3) (pa_cons (pe_gi rfl (W.i 3 rfl)) pa_nil))) (pe_one (pe_cmpR op_eq (pe_callB (k_len K) rfl (W.f 0 rfl) bb_len (pa_cons (pv 3) pa_nil)) (pv 0) (nomark _)))))) pa_nil)))) (pss_one (ps_ret pe_bl)) pss_nil)
      (pss_cons (ps_if (pt_not (pt_val (pe_callB (k_all K rfl) rfl (W.f 6 rfl) bb_all (pa_cons (pe_lc (own := [("one", 3), ("other", 5)]) (g := (gTup K 2 (gCons (gName 3) (gCons (gName 5) gNil)))) (tt := tYes) rfl nd (RZ.pi_zipA rfl (W.f 10 rfl) (pa_cons (pv 1) (pa_cons (pe_slice (k_slT K) (pv 1) (po_some pe_int) po_none) pa_nil))) (blkOk_by (N := ["many", "value", "known", "one", "kind", "other"]) (sc := defScope (gF "is_closed" 67).st) (by decide +kernel)) (fun _ _ _ _ _ => (pg_tup rfl (pgs_cons (pg_name (i := 3) nd rfl (by first | exact Or.inl rfl | exact Or.inr rfl)) (pgs_cons (pg_name (i := 5) nd rfl (by first | exact Or.inl rfl | exact Or.inr rfl)) pgs_nil)))) (fun _ _ _ _ _ => pts_nil) (fun _ _ _ _ _ => (pe_cmpR (k_ltT K hr.units0) (pv 3) (pv 5) (nomark _)))) pa_nil)))) (pss_one (ps_ret pe_bl)) pss_nil)
      (pss_cons (ps_set (i := 2) nd rfl (Or.inr rfl) (pe_callTy (cr_setB K P w rfl hr.units) rfl (W.f 15 rfl) bb_set (pa_cons (pv 1) pa_nil)))
      (pss_one (ps_ret (pe_callB (k_all K rfl) rfl (W.f 6 rfl) bb_all (pa_cons (pe_lc2 (own := [("one", 3), ("kind", 4)]) (vs1 := [4]) (g := gName 3) (g1 := gName 4) (tt := tYes) (tt1 := tYes) rfl nd (k_pi_tup K (pv 1)) (blkOk_by (N := ["many", "value", "known", "one", "kind", "other"]) (sc := defScope (gF "is_closed" 67).st) (by decide +kernel)) (by decide) (fun _ _ _ _ _ => (pg_name (i := 3) nd rfl (by first | exact Or.inl rfl | exact Or.inr rfl))) (fun _ _ _ _ _ => pts_nil) (fun _ _ _ _ _ => (k_pi_tup K (pe_glob rfl (W.g 64 rfl) relRef))) (fun _ _ _ _ _ => (pg_name (i := 4) nd rfl (by first | exact Or.inl rfl | exact Or.inr rfl))) (fun _ _ _ _ _ => pts_nil) (fun _ _ _ _ _ => (pe_cmpR (op_inB K P w hr.units) (k_cal K (c_next_places W) (hr.mono (by decide)) rfl (W.g 33 rfl) (pa_cons (pv 3) (pa_cons (pv 4) pa_nil))) (pv 2) (by with_unfolding_all rfl)))) pa_nil))))))))), ?_⟩
  obtain ⟨v, n, ps, rfl, n1, n2, hv, ok, hz, q⟩ := h
  have okps : ∀ p ∈ ps, okP p = true := fun p hp => by
    have := ok p hp
    unfold okP
    rw [Bool.and_eq_true]
    refine ⟨decide_eq_true (by rw [this.len]; omega), ?_⟩
    rw [List.contains_iff_mem, this.pm.mem_iff, this.len]
    exact List.mem_map.mpr ⟨n - 1, List.mem_range.mpr (by omega), by omega⟩
  refine q_drop (v := .non) (dr_countC (ev_var rfl) ev_c ev_c (by omega) (by omega) (by omega) (by omega)) fun H1 e1 => ?_
  have hv1 := hv.up (exT e1)
  refine q_when (b := ps.isEmpty) (et_is (et_or (et_not (et_B (ev_isi .tuple (ed_var rfl hv1.rp) ev_c rfl))) fun _ => et_test (ev_eqD (b := ps.isEmpty) (ed_var rfl hv1.rp) (ed_tup eds_nil (Nat.zero_le _)) (shaped_tT ps).2 rfl ?_)) rfl) (fun hb H2 e2 => ?_) (fun hb0 H2 e2 => ?_)
  · cases ps <;> rfl
  · refine s_ret ev_c fun H3 e3 => ?_
    have := q H3 ((e1.trans e2).trans e3)
    unfold closedF at this
    rw [hb] at this
    exact this
  have e02 := e1.trans e2
  have hv2 := hv.up (exT e02)
  refine q_when (b := false) (et_is (et_not (et_B (ev_all (bs := ps.map fun _ => true) (edL_is (edL_map (K := K) (ws := [3]) (j := 3) (fun _ => .bool true) (edI_tup (ed_var rfl hv2.rp)) (fun _ _ => exT) (by rw [List.length_map]; omega) (fun _ => rfl) fun d x H3 e3 hm r => ?_) ?_) (all_true_of ps)))) rfl) (fun z => nomatch z) fun _ H3 e3 => ?_
  · obtain ⟨p, hp, rfl⟩ := List.mem_map.mp hm
    have op := ok p hp
    refine ed_bl (ev_andV (a := true) (b := true) (ev_placesC (ns := p) (ed_var rfl r) ev_c (by rw [op.len]; exact n1) (by rw [op.len]; exact n2) (by rw [op.len]; exact op.pm) op.pf) fun _ => ev_is (ev_op (ev_lenT (ed_var rfl r)) (ev_var rfl) (rv_eq rfl)) ?_)
    rw [List.length_map, op.len]
    simp
  · rw [List.map_map, List.map_map]
    rfl
  have e03 := e02.trans e3
  have hv3 := hv.up (exT e03)
  refine q_when (b := !ascB ps) (et_not (et_B (ev_all (bs := (ps.zip (ps.drop 1)).map fun pq => HT.lexLt pq.1 pq.2) (edL_is (edL_map2 (K := K) (ws := [3, 5]) (j := 3) (k := 5) ltD (edI_zpT (eds_cons (ed_var rfl hv3.rp) (eds_cons (ed_is (ed_sl (ed_var rfl hv3.rp) (eo_some ev_c) eo_none) (congrArg PyData.tuple (cutL_from _ 1))) eds_nil))) (fun _ _ => exT) ?_ (fun _ _ => rfl) zpD_pairs fun d1 d2 x y H4 e4 hm r1 r2 => ?_) ?_) (asc_all ps)))) (fun hb H4 e4 => ?_) (fun hb H4 e4 => ?_)
  · unfold zpD
    rw [List.length_map, List.length_zip, List.length_map]
    omega
  · have hm2 : ∃ p q : List Int, d1 = tI p ∧ d2 = tI q := by
      unfold zpD at hm
      obtain ⟨⟨a, b⟩, hab, e⟩ := List.mem_map.mp hm
      have h1 := List.of_mem_zip hab
      obtain ⟨p, _, rfl⟩ := List.mem_map.mp h1.1
      obtain ⟨q', _, rfl⟩ := List.mem_map.mp (List.mem_of_mem_drop h1.2)
      injection e with e
      injection e with e3 e
      injection e with e4 _
      exact ⟨p, q', e3.symm, e4.symm⟩
    obtain ⟨p, q', rfl, rfl⟩ := hm2
    refine ed_is (ed_bl (ev_ltT (ed_var rfl r1) (ed_var rfl r2))) ?_
    show PyData.bool (HT.lexLt p q') = .bool (HT.lexLt ((p.map PyData.int).map intD) ((q'.map PyData.int).map intD))
    rw [intD_map, intD_map]
  · unfold zpD
    rw [← List.map_drop, List.zip_map, List.map_map, List.map_map, List.map_map]
    refine List.map_congr_left fun pq _ => ?_
    show PyData.bool (HT.lexLt ((pq.1.map PyData.int).map intD) ((pq.2.map PyData.int).map intD)) = .bool (HT.lexLt pq.1 pq.2)
    rw [intD_map, intD_map]
  · refine s_ret ev_c fun H5 e5 => ?_
    have := q H5 ((e03.trans e4).trans e5)
    unfold closedF at this
    rw [show ascB ps = false by simpa using hb] at this
    simpa using this
  have e04 := e03.trans e4
  have hv4 := hv.up (exT e04)
  refine q_setB (ps := ps) (ed_var rfl hv4.rp) hz fun d H5 fd e5 big => ?_
  have e05 := e04.trans e5
  have hv5 := hv.up (exT e05)
  have eq : ∀ b, b = (ps.flatMap fun p => [decide (nextI true p ∈ ps), decide (nextI false p ∈ ps)]).all id → b = closedF ps := fun b e => by
    rw [e, List.all_flatMap]
    unfold closedF
    rw [hb0, show ascB ps = true by simpa using hb]
    simp
  refine s_ret (ev_is (ev_all (bs := ps.flatMap fun p => [decide (nextI true p ∈ ps), decide (nextI false p ∈ ps)]) (edL_is (edL_lc2 (K := K) (R := fun H x p => XT H x p) (j := 3) (k := 4) (vs := [3, 4]) (vs1 := [4]) (fun h t => h.up t) (fun p e => PyData.bool (decide (nextI (isUp e) p ∈ ps))) [PyData.str "upper", PyData.str "lower"] (edR_tup (fun H6 e6 => ev_var rfl) hv5) (fun _ _ => exT) ?_ (fun _ => rfl) (fun x H6 e6 => edI_tup (fun H7 e7 Q7 q7 => q7 _ H7 (Ex.refl _) (.tup (W.walked _) (.cons (.str _) (.cons (.str _) .nil))))) (fun _ _ => rfl) fun p e x y H6 e6 hp he hx ry => ?_) ?_) rfl) (congrArg V.bl (eq _ rfl))) fun H6 e6 => q H6 (e05.trans e6)
  · show ps.length * 2 ≤ 90000
    omega
  · have go : ∀ k : Bool, Rp K H6 y (.str (kindS k)) → Ed K (tOp (rInB K P w) (tCall (spNext K) [] E0 (tCons (tVar 3) (tCons (tVar 4) tNil))) (tVar 2)) [some (.int (n : Nat)), some v, some (.ref d), some x, some y, none] H6 (.bool (decide (nextI k p ∈ ps))) := fun k r => by
      cases r
      exact ed_bl (ev_inB (edX_next (edX_var rfl hx) (ev_var rfl) (okps p hp)).ed (ev_var rfl) (big.ex e6))
    rcases List.mem_cons.mp he with rfl | he
    · exact ed_is (go true ry) (by rw [show isUp (.str "upper") = true from by decide +kernel])
    · rw [List.mem_singleton] at he
      subst he
      exact ed_is (go false ry) (by rw [show isUp (.str "lower") = false from by decide +kernel])
  · rw [List.map_flatMap]
    refine congrArg (fun f => ps.flatMap f) (funext fun p => ?_)
    show [PyData.bool (decide (nextI (isUp (.str "upper")) p ∈ ps)), .bool (decide (nextI (isUp (.str "lower")) p ∈ ps))] = _
    rw [show isUp (.str "upper") = true from by decide +kernel, show isUp (.str "lower") = false from by decide +kernel]
    rfl
end PR
end
section
set_option Elab.async false
set_option linter.all false
set_option maxRecDepth 100000
set_option maxHeartbeats 4000000
/-! _law_right. -/
namespace PR
open PySem PySem.Spec PyProof.Rows L2 Evl
theorem room65 {k : Nat} {A : Around} (r : Room k A) : A.units + 65 < cLine := by have := r.un; omega
theorem k_inD {X : Cx} (K : PySem.W.Frag) (hu : X.A.units + 65 < cLine) (h : X.K = K := by rfl) : OpR X (compareOp .In) (rInD K) := h ▸ op_inD hu
/-! ### what is to be known of the rows -/
structure WR (t : Nat) (u l : List Str) : Prop where
  nm : NmOk u t
  pm : l.Perm u
  wh : lwholeB u l = true
structure OneOk (t : Nat) (u l : List Str) (ks : List (List Int)) : Prop where
  whole : ordWhole u l = true
  wholeR : wholeR u l = true
  law : ∃ m, lclassF u.length m [plc u l] [plc u l] = some ks
  prog : ∃ m f, walkedF none m [(plc u l, none)] [plc u l] = some f ∧ (∀ e ∈ f, e.1 ≠ []) ∧ sortP (f.map (·.1)) = sortP ks
  few : ks.length ≤ 299
  pls : ∀ p ∈ ks, PlOk t p
  yes : closedF (sortP ks) = true
  no : closedF ((sortP ks).drop 1) = false
structure TwoOk (u l u' l' : List Str) (ks : List (List Int)) (due : Bool) : Prop where
  same : decide (lmarkF u l = lmarkF u' l') = due
  whole : ordWhole u' l' = true
  mem : decide (plc u' l' ∈ ks) = due
  find : ∃ m f, walkedF (some (plc u' l')) m [(plc u l, none)] [plc u l] = some f ∧ hasK f (plc u' l') = due ∧ (due = true → ∃ n cs, traceF f n (plc u' l') = some cs ∧ cs.length ≤ 1000 ∧ runF cs.reverse (plc u l) = some (plc u' l') ∧ AlongOk u l cs.reverse ∧
    RowsOk (behindF u l cs.reverse).1 (behindF u l cs.reverse).2 ∧ plc (behindF u l cs.reverse).1 (behindF u l cs.reverse).2 = plc u' l')
  marks : ∃ m m', marksP u l = some m ∧ marksP u' l' = some m' ∧ decide (m = m') = due
  ne : due = false → plc u l ≠ plc u' l'
structure Maths : Prop where
  far : ∀ {t : Nat} {u l : List Str} (ks : List Bool), 2 ≤ t → t ≤ 6 → WR t u l → ks.length = 6 → ∃ r, lfarF ks u l = some r ∧ WR t r.1 r.2
  one : ∀ {t : Nat} {u l : List Str}, 2 ≤ t → t ≤ 6 → WR t u l → ∃ ks, OneOk t u l ks ∧ ∀ {u' l' : List Str}, WR t u' l' → ∃ due, TwoOk u l u' l' ks due
theorem WR.rows {t : Nat} {u l : List Str} (h : WR t u l) (h1 : 2 ≤ t) (h2 : t ≤ 6) : RowsOk u l := ⟨⟨by rw [h.nm.len]; omega, by rw [h.nm.len]; omega, h.nm.nd, h.nm.ok⟩, by rw [h.nm.len]; exact h2, h.pm⟩
theorem WR.low {t : Nat} {u l : List Str} (h : WR t u l) : l.length = t ∧ ∀ x ∈ u, x ∈ l := ⟨by rw [h.pm.length_eq, h.nm.len], fun x hx => h.pm.mem_iff.mpr hx⟩
/-! ### heaps -/
theorem TabG.kp {P p : Addr} {H H' : Hp} (t : GxR.TabG H P) (k : Kp p H H') (hne : P ≠ p) : GxR.TabG H' P := let ⟨ps, h, z⟩ := t; ⟨ps, k _ _ hne h, z⟩
theorem Dice.tab {P p : Addr} {H : Hp} {n : Nat} (d : Dice H p n) (t : GxR.TabG H P) : P ≠ p := by
  obtain ⟨a, b, c, h, _⟩ := d
  exact Ne.symm (TabG.ne t h fun _ q => nomatch q)
theorem IsOrd.lst {K : PySem.W.Frag} {H : Hp} {a D : Addr} {u l : List Str} {xs : List V} {o : HO} (h : IsOrd K H a u l) (hD : H D = some (.lst xs)) : IsOrd K (upd H D o) a u l := by
  obtain ⟨ok, dx, vs, vu, vl, vp, du, dl, h1, h2, h3, h4, h5, h6, h7⟩ := h
  have x : TEx H (upd H D o) := TEx.lst hD
  have go : ∀ {b : Addr} {w : HO}, H b = some w → (∀ ys, w ≠ .lst ys) → upd H D o b = some w := fun {b w} hb n => by
    rw [upd_ne (by rintro rfl; rw [hD] at hb; exact n _ (Option.some.inj hb).symm)]
    exact hb
  refine ⟨ok, dx, vs, vu, vl, vp, du, dl, ?_, h2, h3.up x, h4.up x, h5.up x, go h6 (fun _ q => nomatch q), go h7 (fun _ q => nomatch q)⟩
  rcases h1 with ⟨h1, e⟩ | ⟨h1, e⟩
  · exact .inl ⟨go h1 (fun _ q => nomatch q), e⟩
  · exact .inr ⟨go h1 (fun _ q => by unfold SlX.SlO at q; cases q), go e (fun _ q => nomatch q)⟩
theorem q_cut {s tz : TS} {D : Ends} {σ : L2.St} {H : Hp} (Post : L2.St → Hp → Prop) (h : (∀ σ' H', Post σ' H' → tz D σ' H') → s { D with nx := tz D } σ H) (k : ∀ σ' H', Post σ' H' → tz D σ' H') : tSeq s tz D σ H := h k
/-- a pair of lists of names -/
def PairAt (H : Hp) (T : Addr) (u l : List Str) : Prop := ∃ p q, H T = some (.tup [.ref p, .ref q]) ∧ H p = some (.lst (u.map V.str)) ∧ H q = some (.lst (l.map V.str))
theorem PairAt.ex {H H' : Hp} {T : Addr} {u l : List Str} (h : PairAt H T u l) (e : Ex H H') : PairAt H' T u l := let ⟨p, q, h1, h2, h3⟩ := h; ⟨p, q, e _ _ h1, e _ _ h2, e _ _ h3⟩
theorem PairAt.kp {H H' : Hp} {T p : Addr} {n : Nat} {u l : List Str} (h : PairAt H T u l) (k : Kp p H H') (h1 : ∀ a, H a ≠ none → a ≠ p) : PairAt H' T u l :=
  let ⟨p', q, z1, z2, z3⟩ := h; ⟨p', q, k _ _ (h1 _ (by rw [z1]; exact fun z => nomatch z)) z1, k _ _ (h1 _ (by rw [z2]; exact fun z => nomatch z)) z2, k _ _ (h1 _ (by rw [z3]; exact fun z => nomatch z)) z3⟩
theorem g_nm {i : Nat} {v : V} {σ : L2.St} {H : Hp} {Q : L2.St → Hp → Prop} (k : Q (σ.set i (some v)) H) : gName i v σ H Q := k
theorem lc_orders {K : PySem.W.Frag} {p T1 T2 : Addr} {t : Int} {u l u2 l2 : List Str} {H : Hp} {Q : VK} (p1 : PairAt H T1 u l) (p2 : PairAt H T2 u2 l2) (o1 : RowsOk u l) (o2 : RowsOk u2 l2)
    (k : ∀ D a b H', Ex H H' → H' D = some (.lst [.ref a, .ref b]) → IsOrd K H' a u l → IsOrd K H' b u2 l2 → Q (.ref D) H') :
    tLc (iTup K (tTup (tCons (tVar 2) (tCons (tVar 3) tNil)))) (gTup K 2 (gCons (gName 9) (gCons (gName 10) gNil))) tYes (tMake (He.ga K "Order") (spInit K) [] E0 (tCons (tCB (rTupS K) (tCons (tVar 9) tNil)) (tCons (tCB (rTupS K) (tCons (tVar 10) tNil)) tNil))) [9, 10]
      [some (.ref p), some (.int t), some (.ref T1), some (.ref T2), none, none, none, none, none, none, none] H Q := by
  refine ⟨_, rfl, _, rfl, sz_of (by show 2 ≤ 100000; decide), fun T hT => ?_⟩
  have e1 : Ex H (upd H T (.tup [.ref T1, .ref T2])) := Ex.new hT
  have hT1 : upd H T (.tup [.ref T1, .ref T2]) T = some (.tup [.ref T1, .ref T2]) := upd_same
  generalize upd H T (.tup [.ref T1, .ref T2]) = H1 at e1 hT1 ⊢
  refine ⟨T, rfl, ⟨_, SqT.of hT1⟩, fun D hD => ?_⟩
  let rows : List (List Str × List Str) := [(u, l), (u2, l2)]
  let Pv : Nat → Hp → Prop := fun i H' => Ex H1 H' ∧ ∃ as : List Addr, H' D = some (.lst (as.map V.ref)) ∧ Paired (fun a (r : List Str × List Str) => IsOrd K H' a r.1 r.2) as (rows.take i)
  have step : ∀ (i : Nat) (Ti : Addr) (r : List Str × List Str) (H' : Hp), PairAt H Ti r.1 r.2 → RowsOk r.1 r.2 → rows[i]? = some r → Pv i H' →
      gTup K 2 (gCons (gName 9) (gCons (gName 10) gNil)) (.ref Ti) (wipe [some (.ref p), some (.int t), some (.ref T1), some (.ref T2), none, none, none, none, none, none, none] [9, 10]) H' fun σ2 H2 => wipe σ2 [9, 10] = wipe [some (.ref p), some (.int t), some (.ref T1), some (.ref T2), none, none, none, none, none, none, none] [9, 10] ∧ tYes σ2 H2 fun b H3 =>
        if b = true then tMake (He.ga K "Order") (spInit K) [] E0 (tCons (tCB (rTupS K) (tCons (tVar 9) tNil)) (tCons (tCB (rTupS K) (tCons (tVar 10) tNil)) tNil)) σ2 H3 fun y H4 => ∃ acc, H4 D = some (.lst acc) ∧ acc.length < sizeLine ∧ Pv (i + 1) (upd H4 D (.lst (acc ++ [y]))) else Pv (i + 1) H3 := by
    intro i Ti r H' pa ok hr pv
    obtain ⟨eH, as, hl, pr⟩ := pv
    obtain ⟨p', q', z1, z2, z3⟩ := (pa.ex e1).ex eH
    refine ⟨Ti, [.ref p', .ref q'], rfl, SqT.of z1, rfl, _, _, rfl, _, _, rfl, rfl, rfl, ?_⟩
    unfold tYes
    simp only [if_true]
    refine q_newO (ed_tupLs (ev_var rfl) (sq_of z2) (rps_strs _)) (ed_tupLs (ev_var rfl) (sq_of z3) (rps_strs _)) ok fun x H3 e3 io => ?_
    have hl3 := e3 _ _ hl
    have la : as.length ≤ 2 := by
      have h1 := Paired.length pr
      have h2 := List.length_take_le i rows
      have h3 : (rows.take i).length ≤ rows.length := by rw [List.length_take]; omega
      have h4 : rows.length = 2 := rfl
      omega
    refine ⟨_, hl3, sz_lt (by rw [List.length_map]; omega), Ex.mut (eH.trans e3) hD, as ++ [x], by rw [upd_same, List.map_append] <;> rfl, ?_⟩
    rw [List.take_succ, hr]
    exact paired_snoc (F := fun a (r : List Str × List Str) => IsOrd K (upd H3 D (.lst (as.map V.ref ++ [.ref x]))) a r.1 r.2) (a := x) (b := r) (io.lst hl3) (Paired.mapP pr fun _ _ z => (z.ex e3).lst hl3)
  refine lc_it (walk_tup (xs := [.ref T1, .ref T2])) Pv ⟨Ex.new hD, [], upd_same, .nil⟩ (fun i H' _ pv => SqT.of (pv.1 _ _ hT1)) (fun i x H' H'' hi pv y => ?_) (fun H' pv => ?_)
  · obtain ⟨rfl, hx⟩ := y
    match i, hi with
    | 0, _ =>
      cases hx
      exact step 0 T1 (u, l) _ p1 o1 rfl pv
    | 1, _ =>
      cases hx
      exact step 1 T2 (u2, l2) _ p2 o2 rfl pv
  · obtain ⟨eH, as, hl, pr⟩ := pv
    have pr : Paired (fun a (r : List Str × List Str) => IsOrd K H' a r.1 r.2) as [(u, l), (u2, l2)] := pr
    cases pr with
    | cons z1 t =>
      cases t with
      | cons z2 t2 =>
        cases t2
        exact k D _ _ H' (e1.trans eH) hl z1 z2
theorem q_orders {K : PySem.W.Frag} {p T1 T2 : Addr} {t : Int} {u l u2 l2 : List Str} {H : Hp} {tz : TS} {De : Ends} (p1 : PairAt H T1 u l) (p2 : PairAt H T2 u2 l2) (o1 : RowsOk u l) (o2 : RowsOk u2 l2)
    (k : ∀ a b H', Ex H H' → IsOrd K H' a u l → IsOrd K H' b u2 l2 → tz De [some (.ref p), some (.int t), some (.ref T1), some (.ref T2), some (.ref a), some (.ref b), none, none, none, none, none] H') :
    tSeq (tAsg (tLc (iTup K (tTup (tCons (tVar 2) (tCons (tVar 3) tNil)))) (gTup K 2 (gCons (gName 9) (gCons (gName 10) gNil))) tYes (tMake (He.ga K "Order") (spInit K) [] E0 (tCons (tCB (rTupS K) (tCons (tVar 9) tNil)) (tCons (tCB (rTupS K) (tCons (tVar 10) tNil)) tNil))) [9, 10]) (gLst K 2 (gCons (gName 4) (gCons (gName 5) gNil)))) tz De
      [some (.ref p), some (.int t), some (.ref T1), some (.ref T2), none, none, none, none, none, none, none] H :=
  lc_orders (Q := fun v H' => gLst K 2 (gCons (gName 4) (gCons (gName 5) gNil)) v [some (.ref p), some (.int t), some (.ref T1), some (.ref T2), none, none, none, none, none, none, none] H' (tz De)) p1 p2 o1 o2 fun Dl a b H' e hD i1 i2 => ⟨Dl, _, rfl, sq_of hD, rfl, _, _, rfl, _, _, rfl, rfl, k a b H' e i1 i2⟩
/-! ### calls of the last part -/
section
variable {K : PySem.W.Frag} {σ : L2.St} {H : Hp} {ta tb tc te : TE} {tz : TS} {De : Ends} {u l u' l' : List Str} {T a b : Addr} {i : Nat} {ps ks : List (List Int)}
theorem evA_pair (h : σ[i]? = some (some (.ref T))) (hT : PairAt H T u l) : ∃ p q, H p = some (.lst (u.map V.str)) ∧ H q = some (.lst (l.map V.str)) ∧ EvA (tCons (tOp (rIxT K) (tVar i) (tC (.int 0))) (tCons (tOp (rIxT K) (tVar i) (tC (.int 1))) tNil)) σ H [.ref p, .ref q] := by
  obtain ⟨p, q, h1, h2, h3⟩ := hT
  exact ⟨p, q, h2, h3, eva_cons (ev_op (ev_var h) ev_c (rv_ixT (SqT.of h1) (atI_nat (j := 0) rfl))) (eva_cons (ev_op (ev_var h) ev_c (rv_ixT (SqT.of h1) (atI_nat (j := 1) rfl))) eva_nil)⟩
theorem ed_lmk {t : Nat} (h : σ[i]? = some (some (.ref T))) (hT : PairAt H T u l) (w : WR t u l) (n1 : 2 ≤ t) (n2 : t ≤ 6) : Ed K (tCall (spLMk K) [] E0 (tCons (tOp (rIxT K) (tVar i) (tC (.int 0))) (tCons (tOp (rIxT K) (tVar i) (tC (.int 1))) tNil))) σ H (mkD (lmarkF u l)) := fun H1 e Q q => by
  obtain ⟨p, q', h1, h2, ea⟩ := evA_pair (K := K) h hT
  exact ea H1 e _ fun H2 e2 => ⟨p, q', u, l, rfl, (e.trans e2) _ _ h1, (e.trans e2) _ _ h2, by rw [w.nm.len]; exact n2, by rw [w.nm.len]; exact n1, by rw [w.low.1, w.nm.len], w.low.2, fun v H3 e3 r => q v H3 (e2.trans e3) r⟩
theorem edX_lpl {t : Nat} (h : σ[i]? = some (some (.ref T))) (hT : PairAt H T u l) (w : WR t u l) (n2 : t ≤ 6) : EdX (tCall (spLPl K) [] E0 (tCons (tOp (rIxT K) (tVar i) (tC (.int 0))) (tCons (tOp (rIxT K) (tVar i) (tC (.int 1))) tNil))) σ H (plc u l) := fun H1 e Q q => by
  obtain ⟨p, q', h1, h2, ea⟩ := evA_pair (K := K) h hT
  exact ea H1 e _ fun H2 e2 => ⟨p, q', u, l, rfl, (e.trans e2) _ _ h1, (e.trans e2) _ _ h2, by rw [w.nm.len]; omega, w.low.2, fun v H3 e3 r => q v H3 (e2.trans e3) r⟩
theorem q_parV {i j : Nat} {v : V} (h1 : Ev ta σ H v) (k : ∀ H1, Ex H H1 → tb σ H1 fun w' H2 => tz De ((σ.set i (some v)).set j (some w')) H2) : tSeq (tPar i j (tCons ta (tCons tb tNil))) tz De σ H :=
  q_par (h1 H (Ex.refl _) _ fun H1 e1 => Eq.mp (congrArg (tb σ H1) (funext fun w' => funext fun H2 => propext ⟨fun z => ⟨v, w', rfl, z⟩, fun ⟨v2, w2, e, z⟩ => by cases e; exact z⟩)) (k H1 e1))
theorem ev_inD {ds : List PyData} {d : PyData} {p : Addr} {vs : List V} (h1 : Ed K ta σ H d) (h2 : Ev tb σ H (.ref p)) (hp : H p = some (.lst vs)) (rs : Rps K H vs ds) (s1 : SeqAt.shaped d = true) (s2 : SeqAt.shaped (.list ds) = true) : Ev (tOp (rInD K) ta tb) σ H (.bl (ds.any fun z => PyData.eqv z d)) := fun H1 e Q q =>
  h1 H1 e _ fun v H2 e2 r => h2 H2 (e.trans e2) _ fun H3 e3 => ⟨d, ds, (r.ex e3).dp, dp_list (sq_of (((e.trans e2).trans e3) _ _ hp)) (rs.ex ((e.trans e2).trans e3)), s1, s2, q H3 (e2.trans e3)⟩
theorem any_tI (ks : List (List Int)) (p : List Int) : ((ks.map tI).any fun z => PyData.eqv z (tI p)) = decide (p ∈ ks) := by
  rw [List.any_map]
  have : ∀ q : List Int, ((fun z => PyData.eqv z (tI p)) ∘ tI) q = decide (q = p) := fun q => eqT_ints q p
  rw [Bool.eq_iff_iff, List.any_eq_true, decide_eq_true_iff]
  constructor
  · rintro ⟨q, hq, e⟩
    rw [this q] at e
    exact of_decide_eq_true e ▸ hq
  · exact fun h => ⟨p, h, by rw [this p]; exact decide_eq_true rfl⟩
/-- a value that is a tuple of places, each known -/
def EdPs (K : PySem.W.Frag) (te : TE) (σ : L2.St) (H : Hp) (ps : List (List Int)) : Prop := ∀ H1, Ex H H1 → ∀ Q : VK, (∀ v H2, Ex H1 H2 → IsPs K H2 v ps → Q v H2) → te σ H1 Q
theorem EdPs.ed (h : EdPs K te σ H ps) : Ed K te σ H (tT ps) := fun H1 e Q q => h H1 e Q fun v H2 e2 r => q v H2 e2 r.rp
theorem edPs_class {m : Nat} {f : Fd} (h : σ[i]? = some (some (.ref a))) (ho : IsOrd K H a u l) (hw : ordWhole u l = true) (hf : walkedF none m [(plc u l, none)] [plc u l] = some f) (hne : ∀ e ∈ f, e.1 ≠ []) (hs : sortP (f.map (·.1)) = ps) : EdPs K (tCall (spClass K) [] E0 (tCons (tVar i) tNil)) σ H ps := fun H1 e Q q =>
  ⟨_, h, a, u, l, m, f, rfl, ho.ex e, hw, hf, hne, fun b ws H2 e2 sq lw => q _ H2 e2 ⟨b, ws, rfl, sq, by rw [hs] at lw; exact lw⟩⟩
theorem edPs_drop (h : EdPs K te σ H ps) : EdPs K (tSl (rSlA K) te (tPart (tC (.int 1))) tNoPart) σ H (ps.drop 1) := fun H1 e Q q =>
  h H1 e _ fun v H2 e2 r => (eo_some ev_c : EvO (tPart (tC (.int 1))) σ H (some 1)) H2 (e.trans e2) _ fun H3 e3 => (eo_none : EvO tNoPart σ H none) H3 ((e.trans e2).trans e3) _ fun H4 e4 => by
    have e24 := e3.trans e4
    obtain ⟨a, xs, rfl, hs, rs⟩ := r.up (exT e24)
    have el : xs.length = ps.length := Paired.length rs
    have cut : cutV xs (some 1) none = xs.drop 1 := cutL_from xs 1
    have dr : ∀ {vs : List V} {qs : List (List Int)} {H' : Hp}, Paired (fun x n => XT H' x n) vs qs → Paired (fun x n => XT H' x n) (vs.drop 1) (qs.drop 1) := fun h => by
      cases h with
      | nil => exact .nil
      | cons a t => exact t
    refine ⟨a, xs, rfl, hs, fun hw => ?_, fun _ p hp => ?_⟩
    · have z : xs.drop 1 = xs := by
        rw [← cut]
        unfold cutV
        rw [hw.1, hw.2, List.drop_zero, Nat.sub_zero, List.take_of_length_le (Nat.le_refl _)]
      have e0 : xs = [] := by
        cases xs with
        | nil => rfl
        | cons x r =>
          have := congrArg List.length z
          simp at this
      subst e0
      have e1 : ps = [] := List.length_eq_zero_iff.mp el.symm
      subst e1
      exact q _ H4 (e2.trans e24) ⟨a, [], rfl, hs, .nil⟩
    · rw [cut]
      exact q _ _ ((e2.trans e24).trans (Ex.new hp)) ⟨p, _, rfl, SqT.of upd_same, xt_all_up (dr rs) (exT (Ex.new hp))⟩
theorem ev_closedC {n : Nat} (h1 : Ev ta σ H (.int (n : Nat))) (h2 : EdPs K tb σ H ps) (n1 : 2 ≤ n) (n2 : n ≤ 7) (ok : ∀ p ∈ ps, PlOk n p) (hz : ps.length ≤ 299) : Ev (tCall (spClosed K) [] E0 (tCons ta (tCons tb tNil))) σ H (.bl (closedF ps)) := fun H1 e Q q =>
  h1 H1 e _ fun H2 e2 => h2 H2 (e.trans e2) _ fun v H3 e3 r => ⟨v, n, ps, rfl, n1, n2, r, ok, hz, fun H4 e4 => q H4 ((e2.trans e3).trans e4)⟩
theorem ev_neLLs {ds es : List PyData} {p : Addr} {vs : List V} {b : Bool} (h1 : EdL K ta σ H ds) (h2 : Ev tb σ H (.ref p)) (hp : SqL K H p vs) (rs : Rps K H vs es) (s1 : SeqAt.shaped (.list ds) = true) (s2 : SeqAt.shaped (.list es) = true) (e : PyData.eqv (.list ds) (.list es) = b) : Ev (tOp (rNeD K) ta tb) σ H (.bl !b) := fun H1 e0 Q q =>
  h1 H1 e0 _ fun p' vs' H2 _ e2 h3 r3 => h2 H2 (e0.trans e2) _ fun H3 e3 => ⟨_, _, dp_list (sq_of (e3 _ _ h3)) (r3.ex e3), dp_list (ex_l ((e0.trans e2).trans e3) hp) (rs.ex ((e0.trans e2).trans e3)), s1, s2, by rw [e]; exact q H3 (e2.trans e3)⟩
theorem ev_isWalkC {cs : List Bool} {p : List Int} (h1 : σ[4]? = some (some (.ref a))) (h2 : σ[5]? = some (some (.ref b))) (h3 : Ed K tc σ H (tS (cs.map kindS))) (ho : IsOrd K H a u l) (ho' : IsOrd K H b u' l') (hw : ordWhole u l = true) (hw' : ordWhole u' l' = true) (hz : cs.length ≤ 1000) (hr : runF cs (plc u l) = some p) :
    Ev (tCall (spIsWalk K) [] E0 (tCons (tVar 4) (tCons (tVar 5) (tCons tc tNil)))) σ H (.bl (decide (p = plc u' l'))) := fun H1 e Q q =>
  ⟨_, h1, _, h2, h3 H1 e _ fun v H2 e2 r => ⟨a, b, v, u, l, u', l', cs, p, rfl, ho.ex (e.trans e2), ho'.ex (e.trans e2), hw, hw', r, hz, hr, fun H3 e3 => q H3 (e2.trans e3)⟩⟩
end
theorem ev_isN {σ : L2.St} {H : Hp} {i : Nat} {v : V} (h : σ[i]? = some (some v)) : Ev (tOp (fun x y H Q => y = V.non ∧ Q (V.bl (decide (x = V.non))) H) (tVar i) (tC .non)) σ H (.bl (decide (v = .non))) := fun H1 e Q q => ⟨v, h, rfl, q H1 (Ex.refl _)⟩
def spRight (K : PySem.W.Frag) : Sp := fun vs H Q _ => ∃ p, vs = [.ref p] ∧ Dice H p 0 ∧ GxR.TabG H (tTab K) ∧ ∀ H', GxR.TabG H' (tTab K) → (∀ a o, a ≠ p → a ≠ tTab K → H a = some o → H' a = some o) → Q (.bl true) H'
theorem sc__law_right : FnScope ["_law_dice_here", "_law_times", "_law_first", "_law_second", "_law_one", "_law_other", "_law_due", "_law_found", "_law_walk", "_law_upper", "_law_lower"] ["_law_dice_here"] (defScope (gF "_law_right" 88).st) := ⟨rfl, rfl, rfl, by decide +kernel, rfl, by decide +kernel, by decide +kernel⟩
theorem c__law_right (M : Maths) {P : Program} {w : World} {K : PySem.W.Frag} {mg : Str → Option Value} {base : Heap} (W : W0 K mg base) : Cal P w K mg base 10 (gF "_law_right" 88) ["_law_dice_here"] (spRight K) := by
  refine Cal.of W 72 rfl sc__law_right (fun vs H Q E h => ?len) (fun _ _ _ _ _ _ us hl => match us, hl with | [_], _ => rfl) (fun cdv A outer s H vs Q E hr h => ?body)
  case len => obtain ⟨_, rfl, _⟩ := h; rfl
  have nd := sc__law_right.nd
  refine ⟨_, (pss_cons (ps_set (i := 1) nd rfl (Or.inl rfl) (pe_op op_add pe_int (k_cal K (c__law_roll W) (hr.mono (by decide)) rfl (W.g 43 rfl) (pa_cons (pv 0) (pa_cons pe_int pa_nil)))))
      (pss_cons (ps_par (i := 2) (j := 3) rfl nd rfl rfl (by decide) rfl rfl (pa_cons (k_cal K (c__law_rows_drawn W) (hr.mono (by decide)) rfl (W.g 49 rfl) (pa_cons (pv 0) (pa_cons (pv 1) pa_nil))) (pa_cons (k_cal K (c__law_rows_drawn W) (hr.mono (by decide)) rfl (W.g 49 rfl) (pa_cons (pv 0) (pa_cons (pv 1) pa_nil))) pa_nil)) rfl)
      (pss_cons (ps_if (pt_cmpR op_eq (k_cal K (c__law_roll W) (hr.mono (by decide)) rfl (W.g 43 rfl) (pa_cons (pv 0) (pa_cons pe_int pa_nil))) pe_int (nomark _)) (pss_one (ps_set (i := 3) nd rfl (Or.inl rfl) (k_cal K (c__law_led_far W) (hr.mono (by decide)) rfl (W.g 51 rfl) (pa_cons (pe_ix (k_ixT K) (pv 2) pe_int (fun _ _ => rfl)) (pa_cons (pe_ix (k_ixT K) (pv 2) pe_int (fun _ _ => rfl)) (pa_cons (k_cal K (c__law_kinds_drawn W) (hr.mono (by decide)) rfl (W.g 58 rfl) (pa_cons (pv 0) (pa_cons pe_int pa_nil))) pa_nil)))))) pss_nil)
      (pss_cons (ps_asg (pe_lc (own := [("_law_upper", 9), ("_law_lower", 10)]) (g := (gTup K 2 (gCons (gName 9) (gCons (gName 10) gNil)))) (tt := tYes) rfl nd (k_pi_tup K (pe_tup (pa_cons (pv 2) (pa_cons (pv 3) pa_nil)))) (blkOk_by (N := ["_law_dice_here", "_law_times", "_law_first", "_law_second", "_law_one", "_law_other", "_law_due", "_law_found", "_law_walk", "_law_upper", "_law_lower"]) (sc := defScope (gF "_law_right" 88).st) (by decide +kernel)) (fun _ _ _ _ _ => (pg_tup rfl (pgs_cons (pg_name (i := 9) nd rfl (by first | exact Or.inl rfl | exact Or.inr rfl)) (pgs_cons (pg_name (i := 10) nd rfl (by first | exact Or.inl rfl | exact Or.inr rfl)) pgs_nil)))) (fun _ _ _ _ _ => pts_nil) (fun _ _ _ _ _ => (k_new K (c_Order___init__ W) W 0 rfl (hr.mono (by decide)) rfl (W.g 7 rfl) (pa_cons (pe_callTy (k_tuple K) rfl (W.f 2 rfl) bb_tuple (pa_cons (pv 9) pa_nil)) (pa_cons (pe_callTy (k_tuple K) rfl (W.f 2 rfl) bb_tuple (pa_cons (pv 10) pa_nil)) pa_nil))))) (pg_lst rfl (pgs_cons (pg_name (i := 4) nd rfl (Or.inl rfl)) (pgs_cons (pg_name (i := 5) nd rfl (Or.inl rfl)) pgs_nil))))
      (pss_cons (ps_par (i := 6) (j := 7) rfl nd rfl rfl (by decide) rfl rfl (pa_cons (pe_cmpR (k_eqD K hr.units) (k_cal K (c__law_marks W) (hr.mono (by decide)) rfl (W.g 57 rfl) (pa_cons (pe_ix (k_ixT K) (pv 2) pe_int (fun _ _ => rfl)) (pa_cons (pe_ix (k_ixT K) (pv 2) pe_int (fun _ _ => rfl)) pa_nil))) (k_cal K (c__law_marks W) (hr.mono (by decide)) rfl (W.g 57 rfl) (pa_cons (pe_ix (k_ixT K) (pv 3) pe_int (fun _ _ => rfl)) (pa_cons (pe_ix (k_ixT K) (pv 3) pe_int (fun _ _ => rfl)) pa_nil))) (nomark _)) (pa_cons (k_cal K (c__law_class W) (hr.mono (by decide)) rfl (W.g 60 rfl) (pa_cons (pe_ix (k_ixT K) (pv 2) pe_int (fun _ _ => rfl)) (pa_cons (pe_ix (k_ixT K) (pv 2) pe_int (fun _ _ => rfl)) pa_nil))) pa_nil)) rfl)
      (pss_cons (ps_if (pt_cmpR op_ne (pv 6) (pe_cmpR (k_inD K (room65 hr)) (k_cal K (c__law_places W) (hr.mono (by decide)) rfl (W.g 59 rfl) (pa_cons (pe_ix (k_ixT K) (pv 3) pe_int (fun _ _ => rfl)) (pa_cons (pe_ix (k_ixT K) (pv 3) pe_int (fun _ _ => rfl)) pa_nil))) (pv 7) (by with_unfolding_all rfl)) (nomark _)) (pss_one (ps_ret pe_bl)) pss_nil)
      (pss_cons (ps_if (PW.pt (pw_or (pt_cmpR op_ne (k_cal K (c_are_joined W) (hr.mono (by decide)) rfl (W.g 39 rfl) (pa_cons (pv 4) (pa_cons (pv 5) pa_nil))) (pv 6) (nomark _)) (pw_or1 (pt_cmpR op_ne (k_cal K (c_are_marked_alike W) (hr.mono (by decide)) rfl (W.g 21 rfl) (pa_cons (pv 4) (pa_cons (pv 5) pa_nil))) (pv 6) (nomark _))))) (pss_one (ps_ret pe_bl)) pss_nil)
      (pss_cons (ps_if (PW.pt (pw_or (pt_cmpR (k_neD K hr.units) (pe_callTy (k_list K) rfl (W.f 14 rfl) bb_list (pa_cons (k_cal K (c_class_of W) (hr.mono (by decide)) rfl (W.g 36 rfl) (pa_cons (pv 4) pa_nil)) pa_nil)) (pv 7) (nomark _)) (pw_or (pt_not (pt_val (k_cal K (c_is_closed W) (hr.mono (by decide)) rfl (W.g 41 rfl) (pa_cons (pv 1) (pa_cons (k_cal K (c_class_of W) (hr.mono (by decide)) rfl (W.g 36 rfl) (pa_cons (pv 4) pa_nil)) pa_nil))))) (pw_or1 (pt_val (k_cal K (c_is_closed W) (hr.mono (by decide)) rfl (W.g 41 rfl) (pa_cons (pv 1) (pa_cons (pe_slice (k_slT K) (k_cal K (c_class_of W) (hr.mono (by decide)) rfl (W.g 36 rfl) (pa_cons (pv 4) pa_nil)) (po_some pe_int) po_none) pa_nil)))))))) (pss_one (ps_ret pe_bl)) pss_nil)
      (pss_cons (ps_set (i := 8) nd rfl (Or.inl rfl) (k_cal K (c_walk_between W) (hr.mono (by decide)) rfl (W.g 38 rfl) (pa_cons (pv 4) (pa_cons (pv 5) pa_nil))))
      (pss_cons (ps_if (pt_not (pt_val (pv 6))) (pss_one (ps_ret (pe_and (pe_cmpR op_isN (pv 8) pe_non (nomark _)) (pe_one (pe_not (k_cal K (c_is_walk W) (hr.mono (by decide)) rfl (W.g 40 rfl) (pa_cons (pv 4) (pa_cons (pv 5) (pa_cons (pe_tup pa_nil) pa_nil))))))))) pss_nil)
      (pss_one (ps_ret (pe_and (k_cal K (c_is_walk W) (hr.mono (by decide)) rfl (W.g 40 rfl) (pa_cons (pv 4) (pa_cons (pv 5) (pa_cons (pv 8) pa_nil)))) (pe_and (pe_cmpR (k_eqD K hr.units) (k_prop K (k_cal K (c_order_behind W) (hr.mono (by decide)) rfl (W.g 29 rfl) (pa_cons (pv 4) (pa_cons (pv 8) pa_nil))) W 2 rfl (c_Order_places W) (hr.mono (by decide))) (k_prop K (pv 5) W 2 rfl (c_Order_places W) (hr.mono (by decide))) (nomark _)) (pe_one (pe_cmpR (k_eqD K hr.units) (k_cal K (c_marks W) (hr.mono (by decide)) rfl (W.g 20 rfl) (pa_cons (pv 4) pa_nil)) (k_cal K (c_marks W) (hr.mono (by decide)) rfl (W.g 20 rfl) (pa_cons (pv 5) pa_nil)) (nomark _))))))))))))))))), ?_⟩
  obtain ⟨p, rfl, hd, ht, q⟩ := h
  have nP := hd.tab ht
  -- how many
  refine ⟨_, rfl, ?_⟩
  refine ⟨p, 0, 5, rfl, hd, by omega, by decide, by decide, fun r H1 r0 r1 k1 d1 => ?_⟩
  obtain ⟨j, rfl⟩ := Int.eq_ofNat_of_zero_le r0
  refine ⟨2, (j : Int), rfl, rfl, ?_⟩
  have t1 := TabG.kp ht k1 nP
  have hj : j ≤ 4 := by omega
  -- two pairs of rows
  refine g_nm ?_
  dsimp only
  refine q_par ?_
  refine ⟨_, rfl, _, rfl, ?_⟩
  refine ⟨p, 1, 2 + j, rfl, d1, by omega, by omega, by omega, fun T1 a1 b1 u l H2 fT1 fa1 fb1 hT1 ha1 hb1 nm1 pm1 wh1 k2 d2 => ?_⟩
  have t2 := TabG.kp t1 k2 nP
  have w1 : WR (2 + j) u l := ⟨nm1, pm1, wh1⟩
  have na : T1 ≠ p ∧ a1 ≠ p ∧ b1 ≠ p := ⟨d1.ne (xs := []) fT1, d1.ne (xs := []) fa1, d1.ne (xs := []) fb1⟩
  refine ⟨_, rfl, _, rfl, ?_⟩
  refine ⟨p, 101, 2 + j, rfl, d2, by omega, by omega, by omega, fun T2 a2 b2 u2 l2 H3 fT2 fa2 fb2 hT2 ha2 hb2 nm2 pm2 wh2 k3 d3 => ?_⟩
  refine ⟨_, _, rfl, ?_⟩
  have t3 := TabG.kp t2 k3 nP
  have w2 : WR (2 + j) u2 l2 := ⟨nm2, pm2, wh2⟩
  have kH : Kp p H H3 := (k1.trans k2).trans k3
  have q1 : H3 T1 = some (.tup [.ref a1, .ref b1]) ∧ H3 a1 = some (.lst (u.map V.str)) ∧ H3 b1 = some (.lst (l.map V.str)) := ⟨k3 _ _ na.1 hT1, k3 _ _ na.2.1 ha1, k3 _ _ na.2.2 hb1⟩
  have fresh2 : T2 ≠ p ∧ a2 ≠ p ∧ b2 ≠ p := ⟨d2.ne (xs := []) fT2, d2.ne (xs := []) fa2, d2.ne (xs := []) fb2⟩
  refine q_cut (fun σ' H' => ∃ T2 u2 l2, σ' = [some (.ref p), some (.int ((2 + j : Nat) : Int)), some (.ref T1), some (.ref T2), none, none, none, none, none, none, none] ∧ WR (2 + j) u2 l2 ∧ PairAt H' T1 u l ∧ PairAt H' T2 u2 l2 ∧ GxR.TabG H' (tTab K) ∧ Kp p H H') (fun rest => ?_) (fun σ' H' hp => ?_)
  · refine ⟨_, rfl, ?_⟩
    refine ⟨p, 201, 3, rfl, d3, by omega, by decide, by decide, fun r H4 r0 r1 k4 d4 => ?_⟩
    have q4 : H4 T1 = some (.tup [.ref a1, .ref b1]) ∧ H4 a1 = some (.lst (u.map V.str)) ∧ H4 b1 = some (.lst (l.map V.str)) := ⟨k4 _ _ na.1 q1.1, k4 _ _ na.2.1 q1.2.1, k4 _ _ na.2.2 q1.2.2⟩
    have t4 := TabG.kp t3 k4 nP
    refine ⟨rfl, _, rfl, ?_⟩
    dsimp only
    by_cases hr : r = 0
    · rw [if_pos (by rw [hr]; exact decide_eq_true rfl)]
      refine (ev_op (ev_var rfl) ev_c (rv_ixT (SqT.of q4.1) (v := .ref a1) (atI_nat (j := 0) rfl)) : Ev (tOp (rIxT K) (tVar 2) (tC (.int 0))) [some (.ref p), some (.int ((2 + j : Nat) : Int)), some (.ref T1), some (.ref T2), none, none, none, none, none, none, none] H4 _) H4 (Ex.refl _) _ fun H5 e5 => ?_
      refine (ev_op (ev_var rfl) ev_c (rv_ixT (SqT.of (e5 _ _ q4.1)) (v := .ref b1) (atI_nat (j := 1) rfl)) : Ev (tOp (rIxT K) (tVar 2) (tC (.int 1))) [some (.ref p), some (.int ((2 + j : Nat) : Int)), some (.ref T1), some (.ref T2), none, none, none, none, none, none, none] H5 _) H5 (Ex.refl _) _ fun H6 e6 => ?_
      have e46 := e5.trans e6
      refine ⟨_, rfl, ?_⟩
      refine ⟨p, 202, 6, rfl, d4.ex e46, by omega, by omega, fun v ks H7 kl k7 rk d7 => ?_⟩
      have k47 : Kp p H4 H7 := (Kp.ex e46).trans k7
      obtain ⟨rr, hfar, wr⟩ := M.far ks (by omega) (by omega) w1 kl
      refine ⟨a1, b1, v, u, l, ks, rr, rfl, k47 _ _ na.2.1 q4.2.1, k47 _ _ na.2.2 q4.2.2, rk, by omega, hfar, fun T pp qq H8 e8 fp fq hT hpp hqq => ?_⟩
      have k48 : Kp p H4 H8 := k47.trans (Kp.ex e8)
      exact rest _ _ ⟨T, rr.1, rr.2, rfl, wr, ⟨a1, b1, k48 _ _ na.1 q4.1, k48 _ _ na.2.1 q4.2.1, k48 _ _ na.2.2 q4.2.2⟩, ⟨pp, qq, hT, hpp, hqq⟩, TabG.kp t4 k48 nP, kH.trans (k4.trans k48)⟩
    · rw [if_neg (by simpa using hr)]
      exact rest _ _ ⟨T2, u2, l2, rfl, w2, ⟨a1, b1, q4.1, q4.2.1, q4.2.2⟩, ⟨a2, b2, k4 _ _ fresh2.1 hT2, k4 _ _ fresh2.2.1 ha2, k4 _ _ fresh2.2.2 hb2⟩, t4, kH.trans k4⟩
  · clear q1 fresh2 hT2 ha2 hb2 w2 nm2 pm2 wh2
    obtain ⟨T2, u2, l2, rfl, w2, p1, p2, tH, kH⟩ := hp
    have n1 : 2 ≤ 2 + j := by omega
    have n2 : 2 + j ≤ 6 := by omega
    refine q_orders p1 p2 (w1.rows n1 n2) (w2.rows n1 n2) fun ao bo H5 e5 io1 io2 => ?_
    obtain ⟨ks, one, two⟩ := M.one n1 n2 w1
    obtain ⟨due, tw⟩ := two w2
    have p1 := p1.ex e5
    have p2 := p2.ex e5
    have t5 : GxR.TabG H5 (tTab K) := (ExT.of tH e5).tab
    have kH5 : Kp p H H5 := kH.trans (Kp.ex e5)
    clear two kH tH e5
    -- the law's own verdict and class
    refine q_parV (v := .bl due) (ev_is (ev_eqD (ed_lmk (i := 2) rfl p1 w1 n1 n2) (ed_lmk (i := 3) rfl p2 w2 n1 n2) (shaped_mk _) (shaped_mk _) (eqv_mk _ _)) (congrArg V.bl tw.same)) fun H6 e6 => ?_
    obtain ⟨ac, bc, hac, hbc, eac⟩ := evA_pair (K := K) (σ := [some (.ref p), some (.int ((2 + j : Nat) : Int)), some (.ref T1), some (.ref T2), some (.ref ao), some (.ref bo), none, none, none, none, none]) (i := 2) rfl (p1.ex e6)
    refine eac H6 (Ex.refl _) _ fun H7 e7 => ?_
    obtain ⟨m1, hm1⟩ := one.law
    refine ⟨ac, bc, u, l, m1, ks, rfl, e7 _ _ hac, e7 _ _ hbc, by rw [w1.nm.len]; omega, by rw [w1.nm.len]; omega, w1.low.2, hm1, fun q' hq' => ?_, fun cl ws H8 fcl e8 hcl lw => ?_⟩
    · have := (one.pls q' hq').len
      intro z
      rw [z] at this
      simp at this
      omega
    have e58 := (e6.trans e7).trans e8
    have mks : ∀ q', q' ∈ sortP ks ↔ q' ∈ ks := fun q' => (List.mergeSort_perm _ _ : (sortP ks).Perm ks).mem_iff
    have lks : (sortP ks).length = ks.length := (List.mergeSort_perm _ _ : (sortP ks).Perm ks).length_eq
    -- in the class exactly if due
    refine q_when (b := false) (et_is (et_test (ev_op (ev_var rfl) (ev_inD (edX_lpl (i := 3) rfl (p2.ex e58) w2 n2).ed (ev_var rfl) hcl lw.rps (shaped_ints _).2 (shaped_tT _).1) (rv_ne rfl))) ?_) (fun z => nomatch z) (fun _ H9 e9 => ?_)
    · rw [any_tI, show decide (plc u2 l2 ∈ sortP ks) = due by rw [← tw.mem]; exact decide_eq_decide.mpr (mks _)]
      simp
    -- the program's two verdicts
    have e59 := e58.trans e9
    obtain ⟨mf, f, hf, hhas, htr⟩ := tw.find
    obtain ⟨mk1, mk2, hmk1, hmk2, hmk⟩ := tw.marks
    refine ⟨_, rfl, _, rfl, ?_⟩
    refine ⟨ao, bo, u, l, u2, l2, mf, f, rfl, io1.ex e59, io2.ex e59, one.whole, tw.whole, hf, fun z => ?_, fun H10 e10 => ?_⟩
    · obtain ⟨n, cs, h1, h2, _⟩ := htr (hhas.symm.trans z)
      exact ⟨n, cs, h1, h2⟩
    refine ⟨_, rfl, rfl, _, rfl, ?_⟩
    dsimp only
    rw [hhas, if_neg (by simp)]
    have e5a := e59.trans e10
    have t10 : GxR.TabG H10 (tTab K) := (ExT.of t5 e5a).tab
    refine ⟨_, rfl, _, rfl, ?_⟩
    refine ⟨ao, bo, u, l, u2, l2, mk1, mk2, rfl, io1.ex e5a, io2.ex e5a, t10, hmk1, hmk2, by rw [w1.nm.len, w2.nm.len], fun H11 x11 => ?_⟩
    refine ⟨_, rfl, rfl, _, rfl, ?_⟩
    dsimp only
    rw [hmk, if_neg (by simp)]
    have t11 := x11.tab
    have jo1 : IsOrd K H11 ao u l := (io1.ex e5a).exT x11 t10
    have jo2 : IsOrd K H11 bo u2 l2 := (io2.ex e5a).exT x11 t10
    have lc11 : H11 cl = some (.lst ws) := x11.go t10 ((e9.trans e10) _ _ hcl) (fun _ q => nomatch q)
    have lw11 : LyV H11 ws (sortP ks) := (lw.up (exT (e9.trans e10))).up (x11.tex t10)
    -- the class
    obtain ⟨mg1, fg, hfg, hfne, hfs⟩ := one.prog
    have few1 : (sortP ks).length ≤ 299 := by rw [lks]; exact one.few
    have pls1 : ∀ q' ∈ sortP ks, PlOk (2 + j) q' := fun q' hq' => one.pls q' ((mks q').mp hq')
    refine q_when (b := false) (et_is (et_or (et_test (ev_neLLs (edL_listT (edPs_class (i := 4) rfl jo1 one.whole hfg hfne hfs).ed) (ev_var rfl) (sq_of lc11) lw11.rps (shaped_tT _).1 (shaped_tT _).1 (eqvL_tI _ _))) fun _ =>
      et_or (et_not (et_B (ev_closedC (n := 2 + j) (ev_var rfl) (edPs_class (i := 4) rfl jo1 one.whole hfg hfne hfs) n1 (by omega) pls1 few1))) fun _ =>
        et_B (ev_closedC (n := 2 + j) (ev_var rfl) (edPs_drop (edPs_class (i := 4) rfl jo1 one.whole hfg hfne hfs)) n1 (by omega) (fun q' hq' => pls1 q' (List.mem_of_mem_drop hq')) (by rw [List.length_drop]; omega))) ?_) (fun z => nomatch z) (fun _ H12 e12 => ?_)
    · rw [one.yes, one.no]
      simp
    have ko1 := jo1.ex e12
    have ko2 := jo2.ex e12
    have t12 : GxR.TabG H12 (tTab K) := (ExT.of t11 e12).tab
    -- the walk
    have kall : ∀ H', ExT (tTab K) H12 H' → ∀ a o, a ≠ p → a ≠ tTab K → H a = some o → H' a = some o := fun H' x a o n1 n2 h => x.at_ a o n2 (e12 _ _ (x11.at_ a o n2 (e5a _ _ (kH5 a o n1 h))))
    refine ⟨_, rfl, _, rfl, ?_⟩
    refine ⟨ao, bo, u, l, u2, l2, mf, f, rfl, ko1, ko2, one.whole, tw.whole, hf, ?_⟩
    cases due with
    | false =>
      refine Or.inl ⟨hhas, fun H13 e13 => ?_⟩
      refine g_nm ?_
      dsimp only
      refine q_when (b := true) (et_is (et_not (a := false) (et_B (ev_var rfl))) rfl) (fun _ H14 e14 => ?_) (fun z => nomatch z)
      have e24 := e13.trans e14
      refine s_ret (ev_is (ev_andV (a := true) (b := true) (ev_is (ev_isN (i := 8) rfl) (by decide)) fun _ => ev_notV (a := false) (ev_is (ev_isWalkC (cs := []) rfl rfl (ed_tup eds_nil (Nat.zero_le _)) (ko1.ex e24) (ko2.ex e24) one.whole tw.whole (Nat.zero_le _) rfl) (congrArg V.bl (decide_eq_false (tw.ne rfl))))) rfl) fun H15 e15 => ?_
      have x15 : ExT (tTab K) H12 H15 := .of t12 (e24.trans e15)
      exact q H15 x15.tab (kall _ x15)
    | true =>
      obtain ⟨n, cs, h1, h2, h3, h4, h5, h6⟩ := htr rfl
      refine Or.inr ⟨hhas, n, cs, h1, h2, fun v H13 e13 rv => ?_⟩
      refine g_nm ?_
      dsimp only
      refine q_when (b := false) (et_is (et_not (a := true) (et_B (ev_var rfl))) rfl) (fun z => nomatch z) (fun _ H14 e14 => ?_)
      have e24 := e13.trans e14
      have lr : cs.reverse.length ≤ 1000 := by rw [List.length_reverse]; exact h2
      refine (ev_is (ev_isWalkC (tc := tVar 8) (σ := [some (.ref p), some (.int ((2 + j : Nat) : Int)), some (.ref T1), some (.ref T2), some (.ref ao), some (.ref bo), some (.bl true), some (.ref cl), some v, none, none]) (cs := cs.reverse) rfl rfl (ed_var rfl (rv.ex e14)) (ko1.ex e24) (ko2.ex e24) one.whole tw.whole lr h3) (congrArg V.bl (decide_eq_true rfl))) H14 (Ex.refl _) _ fun H15 e15 => ⟨true, rfl, ?_⟩
      rw [if_pos rfl]
      have e25 := e24.trans e15
      refine ⟨_, rfl, _, rfl, ?_⟩
      refine ⟨ao, v, u, l, cs.reverse, rfl, ko1.ex e25, (rv.ex e14).ex e15, h4, one.wholeR, lr, h5, fun ob H16 e16 iob => ?_⟩
      refine (edX_propO (σ := [some (.ref p), some (.int ((2 + j : Nat) : Int)), some (.ref T1), some (.ref T2), some (.ref ao), some (.ref bo), some (.bl true), some (.ref cl), some v, none, none]) (ta := tC (.ref ob)) ev_c iob) H16 (Ex.refl _) _ fun xv H17 e17 xx => ?_
      have e27 := (e25.trans e16).trans e17
      refine (edX_propO (σ := [some (.ref p), some (.int ((2 + j : Nat) : Int)), some (.ref T1), some (.ref T2), some (.ref ao), some (.ref bo), some (.bl true), some (.ref cl), some v, none, none]) (ta := tVar 5) (ev_var rfl) (ko2.ex e27)) H17 (Ex.refl _) _ fun yv H18 e18 yy => ?_
      refine ⟨_, _, (xx.ex e18).rp.dp, yy.rp.dp, (shaped_ints _).2, (shaped_ints _).2, ?_⟩
      rw [h6, eqT_ints]
      refine ⟨true, congrArg V.bl (decide_eq_true rfl), ?_⟩
      rw [if_pos rfl]
      have x18 : ExT (tTab K) H12 H18 := .of t12 (e27.trans e18)
      refine ⟨_, rfl, ao, u, l, mk1, rfl, ko1.ex (e27.trans e18), x18.tab, hmk1, fun v1 H19 x19 r19 => ?_⟩
      have y19 := x18.trans x19
      refine ⟨_, rfl, bo, u2, l2, mk2, rfl, (ko2.ex (e27.trans e18)).exT x19 x18.tab, x19.tab, hmk2, fun v2 H20 x20 r20 => ?_⟩
      refine ⟨mkD mk1, mkD mk2, (r19.up (x20.tex x19.tab)).dp, r20.dp, shaped_mk _, shaped_mk _, ?_⟩
      rw [eqv_mk, hmk]
      exact q H20 x20.tab (kall _ (y19.trans x20))
end PR
end
section
set_option Elab.async false
set_option linter.all false
set_option maxRecDepth 100000
set_option maxHeartbeats 4000000
/-! The law. -/
namespace PR
open PySem PySem.Spec PyProof.Rows L2 Evl
theorem class7 : ((lclassF 4 30 [plc ["a", "b", "c", "d"] ["d", "c", "b", "a"]] [plc ["a", "b", "c", "d"] ["d", "c", "b", "a"]]).map fun ks => (ks.length, ks.all fun p => !p.isEmpty)) = some (7, true) := by decide +kernel
theorem class6 : ((lclassF 4 30 [plc ["a", "b", "c", "d"] ["d", "b", "c", "a"]] [plc ["a", "b", "c", "d"] ["d", "b", "c", "a"]]).map fun ks => (ks.length, ks.all fun p => !p.isEmpty)) = some (6, true) := by decide +kernel
theorem ev_min2 {σ : L2.St} {H : Hp} {ta tb : TE} {i j : Int} (ha : Ev ta σ H (.int i)) (hb : Ev tb σ H (.int j)) : Ev (tCB (fun xs H Q => ∃ i j, xs = [.int i, .int j] ∧ Q (.int (if j < i then j else i)) H) (tCons ta (tCons tb tNil))) σ H (.int (if j < i then j else i)) := fun H1 e Q q =>
  ha H1 e _ fun H2 e2 => hb H2 (e.trans e2) _ fun H3 e3 => ⟨i, j, rfl, q H3 (e2.trans e3)⟩
def nams : List Str := ["a", "b", "c", "d"]
def low1 : List Str := ["d", "c", "b", "a"]
def low2 : List Str := ["d", "b", "c", "a"]
theorem el_four {σ : L2.St} {H : Hp} (w x y z : Str) : EvL (tLst (tCons (tC (.str w)) (tCons (tC (.str x)) (tCons (tC (.str y)) (tCons (tC (.str z)) tNil))))) σ H (([w, x, y, z] : List Str).map V.str) := el_lst (eva_cons ev_c (eva_cons ev_c (eva_cons ev_c (eva_cons ev_c eva_nil)))) (by show 4 ≤ 100000; decide)
theorem it_two {K : PySem.W.Frag} {σ : L2.St} {H : Hp} {ta tb : TE} {xs ys : List V} {R : It → Hp → Prop} (h1 : EvL ta σ H xs) (h2 : ∀ H1, EvL tb σ H1 ys) (k : ∀ T p1 p2 H', Ex H H' → H' p1 = some (.lst xs) → H' p2 = some (.lst ys) → H' T = some (.tup [.ref p1, .ref p2]) → R (Itt K T) H') : iTup K (tTup (tCons ta (tCons tb tNil))) σ H R :=
  h1 H (Ex.refl _) _ fun p1 H1 f1 e1 g1 => h2 H1 H1 (Ex.refl _) _ fun p2 H2 f2 e2 g2 => ⟨sz_of (by show 2 ≤ 100000; decide), fun T hT =>
    ⟨T, rfl, ⟨_, SqT.of upd_same⟩, k T p1 p2 _ ((e1.trans e2).trans (Ex.new hT)) ((Ex.new hT) _ _ (e2 _ _ g1)) ((Ex.new hT) _ _ g2) upd_same⟩⟩
theorem lc_sizes {K : PySem.W.Frag} {a dn : Addr} {y : Option V} {H : Hp} {Q : VK} (hn : H dn = some (.lst (nams.map V.str))) (k : ∀ D H', H' D = some (.lst [.int 7, .int 6]) → Q (.ref D) H') :
    tLc (iTup K (tTup (tCons (tLst (tCons (tC (.str "d")) (tCons (tC (.str "c")) (tCons (tC (.str "b")) (tCons (tC (.str "a")) tNil))))) (tCons (tLst (tCons (tC (.str "d")) (tCons (tC (.str "b")) (tCons (tC (.str "c")) (tCons (tC (.str "a")) tNil))))) tNil)))) (gName 4) tYes
      (tCB (rLenS K) (tCons (tCall (spLClass K) [] E0 (tCons (tVar 2) (tCons (tVar 4) tNil))) tNil)) [4] [some (.ref a), y, some (.ref dn), none, none] H Q := by
  refine it_two (el_four "d" "c" "b" "a") (fun H1 => el_four "d" "b" "c" "a") fun T p1 p2 H3 e03 h1 h2 hT3 D hD => ?_
  let Pv : Nat → Hp → Prop := fun i H' => Ex H3 H' ∧ H' D = some (.lst (([V.int 7, .int 6]).take i))
  have step : ∀ (i : Nat) (pi : Addr) (l : List Str) (n : Int) (H' : Hp), Ex H3 H' → H' pi = some (.lst (l.map V.str)) → H' D = some (.lst (([V.int 7, .int 6]).take i)) → (∀ x ∈ nams, x ∈ l) → ([V.int 7, .int 6])[i]? = some (.int n) →
      ((lclassF 4 30 [plc nams l] [plc nams l]).map fun ks => (ks.length, ks.all fun p => !p.isEmpty)) = some (n.toNat, true) → 0 ≤ n →
      gName 4 (.ref pi) (wipe [some (.ref a), y, some (.ref dn), none, none] [4]) H' fun σ2 H2 => wipe σ2 [4] = wipe [some (.ref a), y, some (.ref dn), none, none] [4] ∧ tYes σ2 H2 fun b H3 =>
        if b = true then tCB (rLenS K) (tCons (tCall (spLClass K) [] E0 (tCons (tVar 2) (tCons (tVar 4) tNil))) tNil) σ2 H3 fun y H4 => ∃ acc, H4 D = some (.lst acc) ∧ acc.length < sizeLine ∧ Pv (i + 1) (upd H4 D (.lst (acc ++ [y]))) else Pv (i + 1) H3 := by
    intro i pi l n H' eH hp hl hm hi hc hn0
    obtain ⟨ks, hks, hk2⟩ := Option.map_eq_some_iff.mp hc
    have hk3 : ks.length = n.toNat ∧ (ks.all fun p => !p.isEmpty) = true := ⟨congrArg Prod.fst hk2, congrArg Prod.snd hk2⟩
    refine g_nm ⟨rfl, ?_⟩
    unfold tYes
    simp only [if_true]
    refine ⟨_, rfl, _, rfl, ?_⟩
    refine ⟨dn, pi, nams, l, 30, ks, rfl, eH _ _ (e03 _ _ hn), hp, by decide, by decide, hm, hks, fun p hp z => ?_, fun qq ws H5 fq e5 hq lw => ?_⟩
    · have := List.all_eq_true.mp hk3.2 p hp
      rw [z] at this
      exact nomatch this
    · refine ⟨qq, ws, rfl, .inl (sq_of hq), ?_⟩
      have hl5 := e5 _ _ hl
      refine ⟨_, hl5, sz_lt (by rw [List.length_take]; show min i 2 < 100000; omega), Ex.mut (eH.trans e5) hD, ?_⟩
      have lws : (ws.length : Int) = n := by
        have h1 : ws.length = (sortP ks).length := Paired.length lw
        have h2 : (sortP ks).length = ks.length := (List.mergeSort_perm _ _ : (sortP ks).Perm ks).length_eq
        rw [h1, h2, hk3.1]
        omega
      rw [upd_same, lws, List.take_succ, hi]
      rfl
  refine lc_it (walk_tup (xs := [.ref p1, .ref p2])) Pv ⟨Ex.new hD, upd_same⟩ (fun i H' _ pv => SqT.of (pv.1 _ _ hT3)) (fun i x H' H'' hi pv yy => ?_) (fun H' pv => k D H' pv.2)
  obtain ⟨rfl, hx⟩ := yy
  match i, hi with
  | 0, _ =>
    cases hx
    exact step 0 p1 low1 7 _ pv.1 (pv.1 _ _ h1) pv.2 (by decide +kernel) rfl class7 (by decide)
  | 1, _ =>
    cases hx
    exact step 1 p2 low2 6 _ pv.1 (pv.1 _ _ h2) pv.2 (by decide +kernel) rfl class6 (by decide)
theorem q_sizes {K : PySem.W.Frag} {a dn : Addr} {y : Option V} {H : Hp} {tz : TS} {De : Ends} (hn : H dn = some (.lst (nams.map V.str))) (k : ∀ D H', H' D = some (.lst [.int 7, .int 6]) → tz De [some (.ref a), y, some (.ref dn), some (.ref D), none] H') :
    tSeq (tAsg (tLc (iTup K (tTup (tCons (tLst (tCons (tC (.str "d")) (tCons (tC (.str "c")) (tCons (tC (.str "b")) (tCons (tC (.str "a")) tNil))))) (tCons (tLst (tCons (tC (.str "d")) (tCons (tC (.str "b")) (tCons (tC (.str "c")) (tCons (tC (.str "a")) tNil))))) tNil)))) (gName 4) tYes
      (tCB (rLenS K) (tCons (tCall (spLClass K) [] E0 (tCons (tVar 2) (tCons (tVar 4) tNil))) tNil)) [4]) (gName 3)) tz De [some (.ref a), y, some (.ref dn), none, none] H :=
  lc_sizes (Q := fun v H' => gName 3 v [some (.ref a), y, some (.ref dn), none, none] H' (tz De)) hn fun D H' h => k D H' h
/-- a def, by each function object of its text -/
def CalB (P : Program) (w : World) (K : PySem.W.Frag) (mg : Str → Option Value) (base : Heap) (k : Nat) (d : DfP) (ps : List Str) (sp : Sp) : Prop := ∀ fd, Fun K d.nm d.ql d.st (d.ad K) fd → FnOk P w K mg base CX0 k (d.ad K) fd ps sp
theorem CalB.of {P : Program} {w : World} {K : PySem.W.Frag} {mg : Str → Option Value} {base : Heap} (W : W0 K mg base) (i : Nat) {d : DfP} {N ps : List Str} {k : Nat} {sp : Sp} (hd : dfs[i]? = some d) (S : FnScope N ps (defScope d.st)) (len : ∀ vs H Q E, sp vs H Q E → vs.length = ps.length)
    (bnd : ∀ (kV doc pm : Value) (an : Option Addr) (cdv ct : Value) (us : List Value), us.length = ps.length → bindArgs (PySem.W.fnOf d.nm d.ql (defArgs d.st) (defBody d.st) (defScope d.st) .none kV doc pm an cdv ct) ⟨us, []⟩ = pure (ps.zip us))
    (hbody : ∀ (cdv : Value) (A : Around) (outer : List Env) (s : Shared) (H : Hp) (vs : List V) (Q : VK) (E : XK), Room k (A.deeper (envOfC d.ql (defScope d.st) s.heap.objs.size (d.ad K) cdv)) → sp vs H Q E →
      ∃ t, PSs (cxOf CX0 P w K mg base N d.ql (defScope d.st) (d.ad K) cdv A outer s H E).nox (defBody d.st) t ∧ t { nx := fun _ H' => Q .non H', rt := Q } (start N vs) H) : CalB P w K mg base (k + 1) d ps sp := fun fd F => F.ok S len hbody
def spLaw (K : PySem.W.Frag) : Sp := fun vs H Q _ => ∃ (a : Addr) (ns : List Int), vs = [.ref a] ∧ SqL K H a (ns.map V.int) ∧ GxR.TabG H (tTab K) ∧ ∀ H', Q (.bl true) H'
theorem sc_law : FnScope ["_law_script", "_law_spot", "_law_names", "_law_sizes", "_law_lower"] ["_law_script"] (defScope (gF "law" 89).st) := ⟨rfl, rfl, rfl, by decide +kernel, rfl, by decide +kernel, by decide +kernel⟩
theorem c_law (M : Maths) {P : Program} {w : World} {K : PySem.W.Frag} {mg : Str → Option Value} {base : Heap} (W : W0 K mg base) : CalB P w K mg base 11 (gF "law" 89) ["_law_script"] (spLaw K) := by
  refine CalB.of W 73 rfl sc_law (fun vs H Q E h => ?len) (fun _ _ _ _ _ _ us hl => match us, hl with | [_], _ => rfl) (fun cdv A outer s H vs Q E hr h => ?body)
  case len => obtain ⟨_, _, rfl, _⟩ := h; rfl
  have nd := sc_law.nd
  refine ⟨_, (pss_cons (ps_for PassesOwn.never rfl (pi_range1 rfl (W.f 11 rfl) (pa_cons (pe_callB (call_max2 rfl) rfl (W.f 12 rfl) bb_max (pa_cons pe_int (pa_cons (pe_callB (call_min2 rfl) rfl (W.f 13 rfl) bb_min (pa_cons pe_int (pa_cons (pe_callB (k_len K) rfl (W.f 0 rfl) bb_len (pa_cons (pv 0) pa_nil)) pa_nil))) pa_nil))) pa_nil)) (pg_name (i := 1) nd rfl (Or.inl rfl)) (pss_one (ps_if (pt_not (pt_val (k_cal K (c__law_right M W) (hr.mono (by decide)) rfl (W.g 61 rfl) (pa_cons (k_cal K (c__law_dice W) (hr.mono (by decide)) rfl (W.g 42 rfl) (pa_cons (pv 0) (pa_cons (pv 1) pa_nil))) pa_nil)))) (pss_one (ps_ret pe_bl)) pss_nil)))
      (pss_cons (ps_set (i := 2) nd rfl (Or.inr rfl) (pe_lst (pa_cons pe_str (pa_cons pe_str (pa_cons pe_str (pa_cons pe_str pa_nil))))))
      (pss_cons (ps_setLc (own := [("_law_lower", 4)]) (g := (gName 4)) (tt := tYes) (i := 3) rfl nd rfl rfl (sw_true rfl rfl rfl (by decide +kernel)) (k_pi_tup K (pe_tup (pa_cons (pe_lst (pa_cons pe_str (pa_cons pe_str (pa_cons pe_str (pa_cons pe_str pa_nil))))) (pa_cons (pe_lst (pa_cons pe_str (pa_cons pe_str (pa_cons pe_str (pa_cons pe_str pa_nil))))) pa_nil)))) (blkOk_by (N := ["_law_script", "_law_spot", "_law_names", "_law_sizes", "_law_lower"]) (sc := defScope (gF "law" 89).st) (by decide +kernel)) (fun _ _ _ _ _ => (pg_name (i := 4) nd rfl (by first | exact Or.inl rfl | exact Or.inr rfl))) (fun _ _ _ _ _ => pts_nil) (fun _ _ _ _ _ => (pe_callB (k_len K) rfl (W.f 0 rfl) bb_len (pa_cons (k_cal K (c__law_class W) (hr.mono (by decide)) rfl (W.g 60 rfl) (pa_cons (pv 2) (pa_cons (pv 4) pa_nil))) pa_nil))))
      (pss_one (ps_ret (pe_cmpR (k_eqD K hr.units) (pv 3) (pe_lst (pa_cons pe_int (pa_cons pe_int pa_nil))) (nomark _))))))), ?_⟩
  obtain ⟨a, ns, rfl, hs, ht, q⟩ := h
  refine q_forR1 (n := if (if ((ns.map V.int).length : Int) < 2 then ((ns.map V.int).length : Int) else 2) > 1 then (if ((ns.map V.int).length : Int) < 2 then ((ns.map V.int).length : Int) else 2) else 1) (eva_cons (ev_max2 ev_c (ev_min2 ev_c (ev_len (ev_var rfl) hs))) eva_nil) (by split <;> split <;> omega)
    (fun i σ' H' => ∃ y, σ' = [some (.ref a), y, none, none, none] ∧ GxR.TabG H' (tTab K) ∧ SqL K H' a (ns.map V.int)) (fun H1 e1 => ⟨none, rfl, (ExT.of ht e1).tab, ex_l e1 hs⟩) (fun i σ' H' hi pv => ?_) (fun σ' H' pv => ?_)
  · obtain ⟨y, rfl, tH, sH⟩ := pv
    have hi2 : i < 10 := by
      split at hi <;> split at hi <;> omega
    refine ⟨_, rfl, _, rfl, ?_⟩
    refine ⟨a, ns, i, rfl, sH, hi2, fun p H2 fp e2 d => ?_⟩
    refine ⟨p, rfl, d, (ExT.of tH e2).tab, fun H3 t3 k3 => ⟨true, rfl, ?_⟩⟩
    dsimp only
    rw [if_neg (by decide)]
    refine ⟨_, rfl, t3, ?_⟩
    rcases sH with sH | sH
    · refine .inl ?_
      have go : ∀ o, (∀ q, o ≠ .tbl q) → H' a = some o → H3 a = some o := fun o no h => k3 a o (by rintro rfl; rw [fp] at h; exact nomatch h) (TabG.ne tH h no) (e2 _ _ h)
      rcases sH with h | ⟨o, h⟩
      · exact .inl (go _ (fun _ z => nomatch z) h)
      · exact .inr ⟨o, go _ (fun _ z => nomatch z) h⟩
    · exact .inr sH
  · obtain ⟨y, rfl, _, _⟩ := pv
    refine q_asgL (el_four "a" "b" "c" "d") fun dn H1 f1 e1 h1 => ?_
    refine q_sizes (K := K) (a := a) (dn := dn) (y := y) h1 fun D H2 h2 => ?_
    exact s_ret (ev_eqLs (b := true) (ds := [.int 7, .int 6]) (es := [.int 7, .int 6]) (ev_var rfl) (fun H' e => sq_of (e _ _ h2)) (.cons (.int 7) (.cons (.int 6) .nil)) (edL_lst (eds_cons (ed_int ev_c) (eds_cons (ed_int ev_c) eds_nil)) (by show 2 ≤ 100000; decide)) rfl rfl (by decide +kernel)) fun H3 _ => q H3
end PR
end
section
set_option Elab.async false
set_option linter.all false
set_option maxRecDepth 100000
set_option maxHeartbeats 0
/-! The end. -/
namespace PR
open PySem PySem.Spec PyProof.Rows L2 Evl
theorem w0_of {h base : Heap} {K : PySem.W.Frag} {mg : Str → Option Value} (c : Says h K) (X : K.In base) (G : base.Ns mainGlobals mg) (tb : GxR.TabB base mg (tCode K) (tTab K)) : W0 K mg base := by
  obtain ⟨k1, k⟩ := He.ba c.ck
  obtain ⟨k2, k⟩ := He.ba k
  obtain ⟨k3, k⟩ := He.ba k
  obtain ⟨k4, k⟩ := He.ba k
  obtain ⟨k5, k⟩ := He.ba k
  obtain ⟨k6, k⟩ := He.ba k
  obtain ⟨k7, k⟩ := He.ba k
  obtain ⟨k8, k⟩ := He.ba k
  obtain ⟨k9, k⟩ := He.ba k
  obtain ⟨k10, k11⟩ := He.ba k
  have cl : ∀ x ∈ clsO, sclB K x = true ∧ mkrB K x = true ∧ isiB K x = true := fun x hx => by
    obtain ⟨z1, z⟩ := He.ba (List.all_eq_true.mp k9 x hx)
    obtain ⟨z2, z3⟩ := He.ba z
    exact ⟨z1, z2, z3⟩
  refine {
    fu := fun d hd => DfP.fun_ (c.fu d hd) (List.all_eq_true.mp k1 d hd)
    glo := fun x hx => He.glo_ok X G (List.all_eq_true.mp k2 x hx)
    fre := fun x hx => He.free_ok X G (List.all_eq_true.mp k3 x hx)
    ing := fun p hp => He.int_ok X G (List.all_eq_true.mp k4 p hp)
    stg := fun p hp => He.str_ok X G (List.all_eq_true.mp k5 p hp)
    slt := fun p hp => slotB_ok (List.all_eq_true.mp k6 p hp)
    met := fun p hp => He.meth_ok (List.all_eq_true.mp k7 p hp)
    prp := fun p hp => propB_ok (List.all_eq_true.mp k8 p hp)
    scl := fun x hx => sclB_ok (cl x hx).1
    mkr := fun x hx => He.mkr_ok (cl x hx).2.1
    isi := fun x hx => isiB_ok (cl x hx).2.2
    kinds := fun H => He.tupB_ok k10 H
    walked := fun H => He.tupB_ok k11 H
    tab := tb
    tabc := fun oc od fd sl lk => ?_ }
  have hd : mF "Crossings" "frame" "Crossings.frame" 33 6 ∈ dfs := by
    refine List.mem_of_getElem? (i := 27) ?_
    rfl
  have hf := List.all_eq_true.mp k1 _ hd
  obtain ⟨_, c2⟩ := Bool.and_eq_true_iff.mp hf
  have lk' : K.lookup ((mF "Crossings" "frame" "Crossings.frame" 33 6).ad K) = some ⟨oc, od, .func fd, sl⟩ := lk
  rw [lk'] at c2
  have c3 : PySem.W.codeIn K fd.code "Crossings.frame" = true := c2
  unfold tCode
  rw [lk]
  show fd.code = .ref (match fd.code with | .ref c => c | _ => 0)
  unfold PySem.W.codeIn at c3
  split at c3
  · rename_i c e
    rw [e]
  · cases c3
theorem tab_of {base : Heap} {mg : Str → Option Value} {c P : Addr} (x : LamX.TabB base mg c P) : GxR.TabB base mg c P := ⟨x.1, x.2, x.3⟩
theorem law_at (M : Maths) {w : World} {K : PySem.W.Frag} {mg : Str → Option Value} {fa : Addr} {h : Heap} (c : Says h K) (X : K.In h) (G : h.Ns mainGlobals mg) (hfa : mg ("law" : Str) = some (.ref fa)) : LamX.LawAtS PySem.Challenge.rw_pieceround_k69_whole_joined_by_marks w K CX0 11 63 "_law_script" mg fa h := by
  obtain ⟨k1, k⟩ := He.ba c.ck
  obtain ⟨k2, k⟩ := He.ba k
  obtain ⟨fd, F⟩ := DfP.fun_ (c.fu (gF "law" 89) (by refine List.mem_of_getElem? (i := 73) ?_; rfl)) (List.all_eq_true.mp k1 _ (by refine List.mem_of_getElem? (i := 73) ?_; rfl))
  have e : fa = He.ga K "law" := by
    have := (hfa.symm.trans (He.glo_ok X G (List.all_eq_true.mp k2 "law" (by decide +kernel))))
    injection this with this
    injection this
  have hb : ∀ (s : Shared) (u : Value), BindsTo s fd ⟨[u], []⟩ [("_law_script", u)] := fun s u => by
    obtain ⟨oc, od, kV, doc, pm, an, cdv, ct, osl, rfl, lk, hcd⟩ := F.ex
    exact BindsTo.of_eq rfl
  refine ⟨fd, [(tCode K, tTab K)], spLaw K, fun p hp => ?_, fun p hp => ?_, fun p hp => ?_, hb, fun H a ns hl hbits hH hS => ⟨a, ns, rfl, hS, ⟨#[], hH _ List.mem_cons_self, ?_⟩, fun _ => rfl⟩, fun base X' G' tb => ?_⟩
  · rw [List.mem_singleton.mp hp]; exact c.emp
  · rw [List.mem_singleton.mp hp]; exact c.out
  · rw [List.mem_singleton.mp hp]; exact PySem.W.codeHd_of_K X c.hd
  · trivial
  · rw [e]
    exact c_law M (w0_of c X' G' (tab_of (tb _ List.mem_cons_self))) fd F
theorem closes (M : Maths) : PySem.Challenge.rw_pieceround_k69_whole_joined_by_marks.Holds := by
  w_on; o_law
  refine HandSHeadRun.head_any (r := PySem.W.OpenLaw.row PySem.Challenge.rw_pieceround_k69_whole_joined_by_marks) (q := PySem.W.view (PySem.W.OpenLaw.row PySem.Challenge.rw_pieceround_k69_whole_joined_by_marks).prog [89]) (H := hk) (ob := ob) (M := 6000) (loose := loose) (d := HandSHeadRun.topDef (PySem.W.OpenLaw.row PySem.Challenge.rw_pieceround_k69_whole_joined_by_marks).prog 89) (kwd := []) ob_eq
    (by kernel_rfl) (fun s => by kernel_rfl) run (by kernel_rfl) (by kernel_rfl) (by kernel_rfl) (by rfl) (by first | assumption | decide +kernel) (by decide +kernel) ⟨rfl, rfl, rfl, rfl, rfl, by decide +kernel⟩ ?hw ?hc
  case hw => w_witness2
  case hc =>
    refine LamX.walk_ofTsE (l := PySem.Challenge.rw_pieceround_k69_whole_joined_by_marks) (n := 63) (k := 11) (x := "_law_script") (CX := fun _ => CX0) rfl (by decide) (by kernel_rfl) ⟨rfl, by decide, by decide⟩ ?F (fun _ _ _ _ _ z => z)
    intro w mg fa h Y G hmg0
    obtain ⟨K, KX, c⟩ := Y
    have hmg : mg ("law" : PySem.Str) = some (.ref fa) := by
      have e : (HandSHeadRun.topDef (PySem.W.OpenLaw.row PySem.Challenge.rw_pieceround_k69_whole_joined_by_marks).prog 89).name = ("law" : PySem.Str) := by kernel_rfl
      rw [← e]
      exact hmg0
    exact ⟨K, KX, law_at M c KX G hmg⟩
end PR
end
section
set_option Elab.async false
set_option maxRecDepth 100000
/-! The plain law: places of whole orders with two to six names, their classes and marks. -/
namespace PR
/-! ### lists of numbers -/
def eqL : List Nat → List Nat → Bool
  | [], [] => true
  | x :: a, y :: b => Nat.beq x y && eqL a b
  | _, _ => false
theorem eqL_iff : ∀ {a b : List Nat}, eqL a b = true ↔ a = b
  | [], [] => by simp [eqL]
  | [], _ :: _ => by simp [eqL]
  | _ :: _, [] => by simp [eqL]
  | x :: a, y :: b => by simp [eqL, eqL_iff (a := a) (b := b)]
def memL (p : List Nat) : List (List Nat) → Bool
  | [] => false
  | q :: r => eqL p q || memL p r
theorem memL_iff {p : List Nat} : ∀ {l : List (List Nat)}, memL p l = true ↔ p ∈ l
  | [] => by simp [memL]
  | q :: r => by simp [memL, eqL_iff, memL_iff (p := p) (l := r)]
/-- the first place of a number -/
def ix (x : Nat) : List Nat → Nat
  | [] => 0
  | y :: r => if Nat.beq y x then 0 else ix x r + 1
/-! ### one round on places: true is the upper kind -/
def mapUp (i last : Nat) : Nat → List Nat → List Nat
  | _, [] => []
  | at_, one :: r => (if Nat.beq at_ i then last + 1 else if Nat.ble one last then one else one + 1) :: mapUp i last (at_ + 1) r
def nextP (k : Bool) (p : List Nat) : List Nat :=
  let last := p.getLastD 0
  let g := p.length - 1
  let i := ix g p
  if k then mapUp i last 0 p else p.take (i + 1) ++ last :: (p.take g).drop (i + 1)
/-! ### whole places -/
def anyGe (k : Nat) : List Nat → Bool
  | [] => false
  | x :: r => Nat.ble k x || anyGe k r
def wholeFrom (p : List Nat) : Nat → Bool
  | 0 => true
  | k + 1 => anyGe (k + 1) (p.take (k + 1)) && wholeFrom p k
/-- for each k from 1 to n - 1 one of the first k places is k or more -/
def wholeB (p : List Nat) : Bool := wholeFrom p (p.length - 1)
theorem anyGe_iff {k : Nat} : ∀ {l : List Nat}, anyGe k l = true ↔ ∃ x, x ∈ l ∧ k ≤ x
  | [] => by simp [anyGe]
  | x :: r => by simp [anyGe, anyGe_iff (k := k) (l := r)]
theorem wholeFrom_iff {p : List Nat} : ∀ {m : Nat}, wholeFrom p m = true ↔ ∀ k, 1 ≤ k → k ≤ m → ∃ x, x ∈ p.take k ∧ k ≤ x
  | 0 => by
    simp only [wholeFrom, true_iff]
    intro k h1 h2
    omega
  | m + 1 => by
    rw [wholeFrom, Bool.and_eq_true, anyGe_iff, wholeFrom_iff (m := m)]
    constructor
    · rintro ⟨h1, h2⟩ k hk hk2
      by_cases e : k = m + 1
      · subst e
        exact h1
      · exact h2 k hk (by omega)
    · intro h
      exact ⟨h (m + 1) (by omega) (Nat.le_refl _), fun k h1 h2 => h k h1 (by omega)⟩
/-! ### all orders of a list -/
def insAll (x : Nat) : List Nat → List (List Nat)
  | [] => [[x]]
  | y :: r => (x :: y :: r) :: (insAll x r).map (y :: ·)
def permsOf : List Nat → List (List Nat)
  | [] => [[]]
  | x :: r => (permsOf r).flatMap (insAll x)
theorem mem_insAll {x : Nat} : ∀ {a b : List Nat}, a ++ x :: b ∈ insAll x (a ++ b)
  | [], [] => by simp [insAll]
  | [], y :: b => by simp [insAll]
  | y :: a, b => by
    show y :: (a ++ x :: b) ∈ (x :: y :: (a ++ b)) :: (insAll x (a ++ b)).map (y :: ·)
    exact List.mem_cons_of_mem _ (List.mem_map.mpr ⟨_, mem_insAll, rfl⟩)
theorem mem_permsOf : ∀ {l p : List Nat}, p.Perm l → p ∈ permsOf l
  | [], p, h => by
    rw [List.perm_nil.mp h]
    simp [permsOf]
  | x :: r, p, h => by
    obtain ⟨a, b, rfl⟩ := List.append_of_mem (h.mem_iff.mpr List.mem_cons_self)
    have h2 : (a ++ b).Perm r := (List.perm_cons x).mp (List.perm_middle.symm.trans h)
    exact List.mem_flatMap.mpr ⟨_, mem_permsOf h2, mem_insAll⟩
def wholes (n : Nat) : List (List Nat) := (permsOf (List.range n)).filter wholeB
theorem mem_wholes {n : Nat} {p : List Nat} (h : p.Perm (List.range n)) (w : wholeB p = true) : p ∈ wholes n := List.mem_filter.mpr ⟨mem_permsOf h, w⟩
end PR
end
section
set_option Elab.async false
set_option linter.all false
set_option maxRecDepth 100000
set_option maxHeartbeats 1600000
/-! PrM1: the searches of the program and of the law find the class. -/
namespace PR
open PySem
abbrev Pl := List Int
structure Cls (C : List Pl) : Prop where
  nd : C.Nodup
  closed : ∀ p ∈ C, ∀ k, nextI k p ∈ C
  ok : ∀ p ∈ C, okP p = true
  few : C.length ≤ 299
  conn : ∀ p ∈ C, ∀ q ∈ C, ∃ ks, runF ks p = some q
theorem run_in {K : List Pl} (h : ∀ p ∈ K, ∀ k, nextI k p ∈ K) : ∀ (ks : List Bool) (p q : Pl), p ∈ K → runF ks p = some q → q ∈ K
  | [], p, q, hp, e => by cases e; exact hp
  | k :: ks, p, q, hp, e => by
    unfold runF at e
    split at e
    · exact run_in h ks _ q (h p hp k) e
    · cases e
theorem Cls.all {C K : List Pl} (c : Cls C) {p0 : Pl} (h0 : p0 ∈ C) (h1 : p0 ∈ K) (h2 : ∀ p ∈ K, ∀ k, nextI k p ∈ K) : ∀ q ∈ C, q ∈ K := fun q hq => by
  obtain ⟨ks, e⟩ := c.conn p0 h0 q hq
  exact run_in h2 ks p0 q h1 e
theorem sub_len {α : Type} [DecidableEq α] : ∀ {l m : List α}, l.Nodup → (∀ x ∈ l, x ∈ m) → l.length ≤ m.length
  | [], _, _, _ => Nat.zero_le _
  | x :: l, m, nd, h => by
    rw [List.nodup_cons] at nd
    have hx := h x List.mem_cons_self
    have ih := sub_len (l := l) (m := m.erase x) nd.2 fun y hy => (List.mem_erase_of_ne (fun e => nd.1 (by rw [← e]; exact hy))).mpr (h y (List.mem_cons_of_mem _ hy))
    rw [List.length_erase_of_mem hx] at ih
    have := List.length_pos_of_mem hx
    rw [List.length_cons]
    omega
/-! ### the law's search -/
structure LInv (C K W : List Pl) : Prop where
  nd : K.Nodup
  sub : ∀ p ∈ K, p ∈ C
  wait : ∀ p ∈ W, p ∈ K
  done : ∀ p ∈ K, p ∉ W → ∀ k, nextI k p ∈ K
  len : W.length ≤ K.length
theorem lstep_ok {n : Nat} {C : List Pl} {k : Bool} {p : Pl} {K W : List Pl} (hc : nextI k p ∈ C) (e : lnextP n k p = nextI k p) (nd : K.Nodup) (sub : ∀ p ∈ K, p ∈ C) :
    ∃ a, lstep n k p (K, W) = (K ++ a, W ++ a) ∧ (K ++ a).Nodup ∧ (∀ x ∈ K ++ a, x ∈ C) ∧ nextI k p ∈ K ++ a ∧ a.length ≤ 1 := by
  unfold lstep
  rw [e]
  by_cases h : (K.contains (nextI k p)) = true
  · refine ⟨[], ?_, by simpa using nd, by simpa using sub, by simpa using h, Nat.zero_le _⟩
    rw [if_pos h, List.append_nil, List.append_nil]
  · refine ⟨[nextI k p], by rw [if_neg h], ?_, fun x hx => ?_, by simp, Nat.le_refl _⟩
    · rw [List.nodup_append]
      refine ⟨nd, by simp, fun a ha b hb z => h ?_⟩
      rw [List.mem_singleton] at hb
      subst hb
      subst z
      exact List.contains_iff_mem.mpr ha
    · rcases List.mem_append.mp hx with hx | hx
      · exact sub x hx
      · rw [List.mem_singleton] at hx
        rw [hx]
        exact hc
theorem lclass_go {n : Nat} {C : List Pl} (c : Cls C) (hl : ∀ p ∈ C, ∀ k, lnextOk n k p = true ∧ lnextP n k p = nextI k p) : ∀ (m : Nat) (K W : List Pl), LInv C K W → 2 * (C.length - K.length) + W.length < m → ∃ ks, lclassF n m K W = some ks ∧ LInv C ks [] ∧ ∀ p ∈ K, p ∈ ks
  | 0, _, _, _, h => absurd h (Nat.not_lt_zero _)
  | m + 1, K, W, I, h => by
    unfold lclassF
    by_cases hw : W = []
    · subst hw
      rw [if_pos rfl]
      exact ⟨K, rfl, I, fun p hp => hp⟩
    · rw [if_neg hw]
      obtain ⟨W', p, rfl⟩ := List.eq_nil_or_concat W |>.resolve_left hw
      rw [List.concat_eq_append] at *
      have hp : p ∈ K := I.wait p (by simp)
      have hpC := I.sub p hp
      have lK : K.length ≤ C.length := sub_len I.nd I.sub
      have few := c.few
      have lW := I.len
      rw [List.length_append, List.length_singleton] at lW h
      obtain ⟨a, ea, na, sa, ma, la⟩ := lstep_ok (n := n) (W := W') (c.closed p hpC false) (hl p hpC false).2 I.nd I.sub
      obtain ⟨b, eb, nb, sb, mb, lb⟩ := lstep_ok (n := n) (W := W' ++ a) (c.closed p hpC true) (hl p hpC true).2 na sa
      have g : (W' ++ [p]).getLastD [] = p := by simp
      have d : (W' ++ [p]).dropLast = W' := by simp
      dsimp only
      rw [g, d, (hl p hpC false).1, (hl p hpC true).1]
      rw [if_pos (by simp; omega), ea, eb]
      have lK2 : (K ++ a ++ b).length ≤ C.length := sub_len nb sb
      have I2 : LInv C (K ++ a ++ b) (W' ++ a ++ b) := by
        refine ⟨nb, sb, fun x hx => ?_, fun x hx hn k => ?_, ?_⟩
        · rcases List.mem_append.mp hx with hx | hx
          · rcases List.mem_append.mp hx with hx | hx
            · exact List.mem_append_left _ (List.mem_append_left _ (I.wait x (List.mem_append_left _ hx)))
            · exact List.mem_append_left _ (List.mem_append_right _ hx)
          · exact List.mem_append_right _ hx
        · have hxK : x ∈ K := by
            rcases List.mem_append.mp hx with hx | hx
            · rcases List.mem_append.mp hx with hx | hx
              · exact hx
              · exact absurd (List.mem_append_left _ (List.mem_append_right _ hx)) hn
            · exact absurd (List.mem_append_right _ hx) hn
          by_cases e : x = p
          · subst e
            cases k with
            | false => exact List.mem_append_left _ ma
            | true => exact mb
          · refine List.mem_append_left _ (List.mem_append_left _ (I.done x hxK (fun z => ?_) k))
            rcases List.mem_append.mp z with z | z
            · exact hn (List.mem_append_left _ (List.mem_append_left _ z))
            · exact e (List.mem_singleton.mp z)
        · simp only [List.length_append] at lW ⊢
          omega
      obtain ⟨ks, e, I3, s3⟩ := lclass_go c hl m _ _ I2 (by simp only [List.length_append] at lK2 h ⊢; omega)
      exact ⟨ks, e, I3, fun x hx => s3 x (List.mem_append_left _ (List.mem_append_left _ hx))⟩
theorem lclass_ok {n : Nat} {C : List Pl} (c : Cls C) (hl : ∀ p ∈ C, ∀ k, lnextOk n k p = true ∧ lnextP n k p = nextI k p) {p0 : Pl} (h0 : p0 ∈ C) : ∃ m ks, lclassF n m [p0] [p0] = some ks ∧ ks.Nodup ∧ ∀ q, q ∈ ks ↔ q ∈ C := by
  obtain ⟨ks, e, I, s⟩ := lclass_go c hl (2 * (C.length - 1) + 1 + 1) [p0] [p0] ⟨by simp, fun p hp => by rw [List.mem_singleton.mp hp]; exact h0, fun p hp => hp, fun p hp hn => absurd hp hn, Nat.le_refl _⟩ (by simp)
  exact ⟨_, ks, e, I.nd, fun q => ⟨I.sub q, c.all h0 (s p0 (by simp)) (fun p hp k => I.done p hp List.not_mem_nil k) q⟩⟩
end PR
end
section
set_option Elab.async false
set_option linter.all false
set_option maxRecDepth 100000
set_option maxHeartbeats 1600000
/-! PrM2: the walk of the program finds the class. -/
namespace PR
open PySem
theorem hasK_iff {f : Fd} {p : Pl} : hasK f p = true ↔ p ∈ f.map (·.1) := by
  unfold hasK
  rw [List.any_eq_true, List.mem_map]
  constructor
  · rintro ⟨e, he, h⟩
    exact ⟨e, he, eq_of_beq h⟩
  · rintro ⟨e, he, h⟩
    exact ⟨e, he, by rw [h]; exact beq_self_eq_true p⟩
inductive Grow (p0 : Pl) : Fd → Prop
  | one : Grow p0 [(p0, none)]
  | snoc {f : Fd} {p : Pl} (k : Bool) : Grow p0 f → hasK f p = true → ¬ hasK f (nextI k p) = true → Grow p0 (f ++ [(nextI k p, some (k, p))])
theorem hasK_app {f g : Fd} {p : Pl} : hasK (f ++ g) p = true ↔ hasK f p = true ∨ hasK g p = true := by
  rw [hasK_iff, hasK_iff, hasK_iff, List.map_append, List.mem_append]
theorem hasK_one {q p : Pl} {o : Lk} : hasK [(q, o)] p = true ↔ p = q := by
  rw [hasK_iff]
  exact List.mem_singleton
theorem Grow.nd {p0 : Pl} {f : Fd} (g : Grow p0 f) : (f.map (·.1)).Nodup := by
  induction g with
  | one => exact List.nodup_cons.mpr ⟨List.not_mem_nil, List.nodup_nil⟩
  | snoc k g h hn ih =>
    rw [List.map_append, List.nodup_append]
    refine ⟨ih, List.nodup_cons.mpr ⟨List.not_mem_nil, List.nodup_nil⟩, fun a ha b hb z => hn ?_⟩
    have hb' := List.mem_singleton.mp hb
    subst hb'
    subst z
    exact hasK_iff.mpr ha
theorem Grow.sub {p0 : Pl} {f : Fd} {C : List Pl} (g : Grow p0 f) (c : Cls C) (h0 : p0 ∈ C) : ∀ q, hasK f q = true → q ∈ C := by
  induction g with
  | one => exact fun q h => by rw [hasK_one.mp h]; exact h0
  | snoc k g h hn ih =>
    intro q hq
    rcases hasK_app.mp hq with hq | hq
    · exact ih q hq
    · rw [hasK_one.mp hq]
      exact c.closed _ (ih _ h) k
theorem Grow.start {p0 : Pl} {f : Fd} (g : Grow p0 f) : hasK f p0 = true := by
  induction g with
  | one => exact hasK_one.mpr rfl
  | snoc k g h hn ih => exact hasK_app.mpr (.inl ih)
theorem Grow.len {p0 : Pl} {f : Fd} {C : List Pl} (g : Grow p0 f) (c : Cls C) (h0 : p0 ∈ C) : f.length ≤ C.length := by
  have := sub_len g.nd fun q hq => g.sub c h0 q (hasK_iff.mpr hq)
  rwa [List.length_map] at this
/-! ### the trace -/
theorem lk_app {f g : Fd} {p : Pl} {o : Lk} : lkOf f p = some o → lkOf (f ++ g) p = some o := by
  induction f with
  | nil => exact fun h => nomatch h
  | cons e r ih =>
    intro h
    rw [List.cons_append]
    unfold lkOf at h ⊢
    by_cases z : e.1 = p
    · rw [if_pos z] at h ⊢
      exact h
    · rw [if_neg z] at h ⊢
      exact ih h
theorem lk_new {f : Fd} {p : Pl} {o : Lk} : ¬ hasK f p = true → lkOf (f ++ [(p, o)]) p = some o := by
  induction f with
  | nil =>
    intro _
    show (if p = p then some o else none) = some o
    rw [if_pos rfl]
  | cons e r ih =>
    intro h
    have h1 : ¬ e.1 = p := fun z => h (hasK_iff.mpr (by rw [← z]; exact List.mem_cons_self))
    have h2 : ¬ hasK r p = true := fun z => h (hasK_iff.mpr (List.mem_cons_of_mem _ (hasK_iff.mp z)))
    rw [List.cons_append]
    unfold lkOf
    rw [if_neg h1]
    exact ih h2
theorem trace_app {f g : Fd} : ∀ (m : Nat) (p : Pl) (cs : List Bool), traceF f m p = some cs → traceF (f ++ g) m p = some cs
  | 0, _, _, h => nomatch h
  | m + 1, p, cs, h => by
    unfold traceF at h ⊢
    cases hl : lkOf f p with
    | none => rw [hl] at h; exact nomatch h
    | some o =>
      rw [hl] at h
      rw [lk_app hl]
      cases o with
      | none => exact h
      | some kp =>
        obtain ⟨k, q⟩ := kp
        have h : (traceF f m q).map (k :: ·) = some cs := h
        show (traceF (f ++ g) m q).map (k :: ·) = some cs
        cases ht : traceF f m q with
        | none => rw [ht] at h; exact nomatch h
        | some ds =>
          rw [ht] at h
          rw [trace_app m q ds ht]
          exact h
theorem trace_up {f : Fd} : ∀ (m : Nat) (p : Pl) (cs : List Bool), traceF f m p = some cs → traceF f (m + 1) p = some cs
  | 0, _, _, h => nomatch h
  | m + 1, p, cs, h => by
    unfold traceF at h ⊢
    cases hl : lkOf f p with
    | none => rw [hl] at h; exact nomatch h
    | some o =>
      rw [hl] at h
      cases o with
      | none => exact h
      | some kp =>
        obtain ⟨k, q⟩ := kp
        have h : (traceF f m q).map (k :: ·) = some cs := h
        show (traceF f (m + 1) q).map (k :: ·) = some cs
        cases ht : traceF f m q with
        | none => rw [ht] at h; exact nomatch h
        | some ds =>
          rw [ht] at h
          rw [trace_up m q ds ht]
          exact h
theorem run_app : ∀ (a b : List Bool) (p q : Pl), runF a p = some q → runF (a ++ b) p = runF b q
  | [], b, p, q, h => by cases h; rfl
  | k :: a, b, p, q, h => by
    rw [List.cons_append]
    unfold runF at h
    rw [runF]
    by_cases z : okP p = true
    · rw [if_pos z] at h ⊢
      exact run_app a b _ q h
    · rw [if_neg z] at h
      exact nomatch h
theorem Grow.trace {p0 : Pl} {f : Fd} {C : List Pl} (g : Grow p0 f) (c : Cls C) (h0 : p0 ∈ C) : ∀ q, hasK f q = true → ∃ cs, traceF f (f.length + 1) q = some cs ∧ cs.length ≤ f.length ∧ runF cs.reverse p0 = some q := by
  induction g with
  | one =>
    intro q h
    have e := hasK_one.mp h
    subst e
    refine ⟨[], ?_, Nat.zero_le _, rfl⟩
    unfold traceF lkOf
    rw [if_pos rfl]
  | @snoc f p k g h hn ih =>
    intro q hq
    rw [List.length_append, List.length_singleton]
    by_cases hf : hasK f q = true
    · obtain ⟨cs, h1, h2, h3⟩ := ih q hf
      exact ⟨cs, trace_up _ _ _ (trace_app _ _ _ h1), by omega, h3⟩
    · have e : q = nextI k p := (hasK_app.mp hq).elim (fun z => absurd z hf) hasK_one.mp
      subst e
      obtain ⟨cs, h1, h2, h3⟩ := ih p h
      refine ⟨k :: cs, ?_, by rw [List.length_cons]; omega, ?_⟩
      · rw [traceF, lk_new hn]
        show (traceF _ (f.length + 1) p).map (k :: ·) = _
        rw [trace_app _ _ _ h1]
        rfl
      · rw [List.reverse_cons, run_app _ _ _ _ h3]
        unfold runF
        rw [if_pos (c.ok p (g.sub c h0 p h))]
        rfl
/-! ### the walk -/
structure More (p0 : Pl) (f f' : Fd) (a : List Pl) : Prop where
  grow : Grow p0 f'
  up : ∀ x, hasK f x = true → hasK f' x = true
  new : ∀ x ∈ a, hasK f' x = true
  old : ∀ x, hasK f' x = true → hasK f x = true ∨ x ∈ a
  len : f'.length = f.length + a.length
theorem More.trans {p0 : Pl} {f g h : Fd} {a b : List Pl} (m : More p0 f g a) (n : More p0 g h b) : More p0 f h (a ++ b) := by
  refine ⟨n.grow, fun x hx => n.up x (m.up x hx), fun x hx => ?_, fun x hx => ?_, by rw [n.len, m.len, List.length_append]; omega⟩
  · rcases List.mem_append.mp hx with hx | hx
    · exact n.up x (m.new x hx)
    · exact n.new x hx
  · rcases n.old x hx with hx | hx
    · rcases m.old x hx with hx | hx
      · exact .inl hx
      · exact .inr (List.mem_append_left _ hx)
    · exact .inr (List.mem_append_right _ hx)
theorem stepK_ok {p0 p : Pl} {f : Fd} {nx : List Pl} (k : Bool) (g : Grow p0 f) (h : hasK f p = true) : ∃ f' a, stepK k p (f, nx) = (f', nx ++ a) ∧ More p0 f f' a ∧ hasK f' (nextI k p) = true := by
  unfold stepK
  by_cases z : hasK f (nextI k p) = true
  · exact ⟨f, [], by rw [if_pos z, List.append_nil], ⟨g, fun _ h => h, fun x hx => (List.not_mem_nil hx).elim, fun _ h => .inl h, rfl⟩, z⟩
  · refine ⟨_, [nextI k p], by rw [if_neg z], ⟨.snoc k g h z, fun x hx => hasK_app.mpr (.inl hx), fun x hx => ?_, fun x hx => ?_, by rw [List.length_append]; rfl⟩, hasK_app.mpr (.inr (hasK_one.mpr rfl))⟩
    · rw [List.mem_singleton.mp hx]
      exact hasK_app.mpr (.inr (hasK_one.mpr rfl))
    · rcases hasK_app.mp hx with hx | hx
      · exact .inl hx
      · exact .inr (List.mem_singleton.mpr (hasK_one.mp hx))
theorem layer_ok {C : List Pl} (c : Cls C) {p0 : Pl} (h0 : p0 ∈ C) : ∀ (r : List Pl) (f : Fd) (nx : List Pl), Grow p0 f → (∀ x ∈ r, hasK f x = true) → nx.length ≤ f.length → ∃ f' a, layerF r (f, nx) = some (f', nx ++ a) ∧ More p0 f f' a ∧ ∀ x ∈ r, ∀ k, hasK f' (nextI k x) = true
  | [], f, nx, g, _, _ => ⟨f, [], by rw [List.append_nil]; rfl, ⟨g, fun _ h => h, fun x hx => (List.not_mem_nil hx).elim, fun _ h => .inl h, rfl⟩, fun x hx => (List.not_mem_nil hx).elim⟩
  | p :: r, f, nx, g, hr, hl => by
    have hp := hr p List.mem_cons_self
    obtain ⟨f1, a1, e1, m1, k1⟩ := stepK_ok (nx := nx) true g hp
    obtain ⟨f2, a2, e2, m2, k2⟩ := stepK_ok (nx := nx ++ a1) false m1.grow (m1.up p hp)
    have m12 := m1.trans m2
    obtain ⟨f3, a3, e3, m3, k3⟩ := layer_ok c h0 r f2 (nx ++ a1 ++ a2) m2.grow (fun x hx => m12.up x (hr x (List.mem_cons_of_mem _ hx))) (by
      have := m12.len
      rw [List.length_append] at this
      rw [List.length_append, List.length_append]
      omega)
    have lf := g.len c h0
    have few := c.few
    refine ⟨f3, a1 ++ a2 ++ a3, ?_, m12.trans m3, fun x hx k => ?_⟩
    · unfold layerF stepP
      rw [if_pos]
      · rw [e1, e2]
        show layerF r (f2, nx ++ a1 ++ a2) = _
        rw [e3]
        simp only [List.append_assoc]
      · rw [Bool.and_eq_true, Bool.and_eq_true]
        refine ⟨c.ok p (g.sub c h0 p hp), decide_eq_true ?_, decide_eq_true ?_⟩
        · show f.length < 5000
          omega
        · show nx.length < 5000
          omega
    · rcases List.mem_cons.mp hx with hx | hx
      · subst hx
        cases k with
        | true => exact m3.up _ (m2.up _ k1)
        | false => exact m3.up _ k2
      · exact k3 x hx k
theorem walked_go {C : List Pl} (c : Cls C) {p0 : Pl} (h0 : p0 ∈ C) (goal : Option Pl) : ∀ (m : Nat) (f : Fd) (ly : List Pl), Grow p0 f → (∀ x ∈ ly, hasK f x = true) → (∀ x, hasK f x = true → x ∉ ly → ∀ k, hasK f (nextI k x) = true) → C.length - f.length + 1 < m → ∃ f', walkedF goal m f ly = some f' ∧ Grow p0 f' ∧ (hasG f' goal = true ∨ ∀ q ∈ C, hasK f' q = true)
  | 0, _, _, _, _, _, h => absurd h (Nat.not_lt_zero _)
  | m + 1, f, ly, g, hl, hd, hm => by
    unfold walkedF
    by_cases z : ly = []
    · subst z
      rw [if_pos rfl]
      refine ⟨f, rfl, g, .inr fun q hq => hasK_iff.mpr ?_⟩
      exact c.all h0 (hasK_iff.mp g.start) (fun p hp k => hasK_iff.mp (hd p (hasK_iff.mpr hp) List.not_mem_nil k)) q hq
    · rw [if_neg z]
      by_cases y : hasG f goal = true
      · rw [if_pos y]
        exact ⟨f, rfl, g, .inl y⟩
      · rw [if_neg y]
        obtain ⟨f', a, e, mo, k⟩ := layer_ok c h0 ly f [] g hl (Nat.zero_le _)
        rw [e]
        show ∃ f'', walkedF goal m f' ([] ++ a) = some f'' ∧ _
        rw [List.nil_append]
        have l1 := mo.len
        have l2 := mo.grow.len c h0
        have done : ∀ x, hasK f' x = true → x ∉ a → ∀ k, hasK f' (nextI k x) = true := fun x hx hn k' => by
          by_cases w : x ∈ ly
          · exact k x w k'
          · exact mo.up _ (hd x ((mo.old x hx).elim id fun q => absurd q hn) w k')
        by_cases w : a = []
        · subst w
          cases m with
          | zero => omega
          | succ m =>
            unfold walkedF
            rw [if_pos rfl]
            exact ⟨f', rfl, mo.grow, .inr fun q hq => hasK_iff.mpr (c.all h0 (hasK_iff.mp mo.grow.start) (fun p hp k => hasK_iff.mp (done p (hasK_iff.mpr hp) List.not_mem_nil k)) q hq)⟩
        · have := List.length_pos_iff.mpr w
          exact walked_go c h0 goal m f' a mo.grow mo.new done (by omega)
theorem walked_ok {C : List Pl} (c : Cls C) {p0 : Pl} (h0 : p0 ∈ C) (goal : Option Pl) : ∃ m f, walkedF goal m [(p0, none)] [p0] = some f ∧ Grow p0 f ∧ (hasG f goal = true ∨ ∀ q ∈ C, hasK f q = true) :=
  let ⟨f, h⟩ := walked_go c h0 goal (C.length - 1 + 2) [(p0, none)] [p0] .one (fun x hx => by rw [List.mem_singleton.mp hx]; exact hasK_one.mpr rfl) (fun x hx hn => absurd (List.mem_singleton.mpr (hasK_one.mp hx)) hn) (Nat.lt_succ_self _)
  ⟨_, f, h⟩
/-- with a goal -/
theorem find_ok {C : List Pl} (c : Cls C) {p0 : Pl} (h0 : p0 ∈ C) (q : Pl) : ∃ m f, walkedF (some q) m [(p0, none)] [p0] = some f ∧ hasK f q = decide (q ∈ C) ∧ (q ∈ C → ∃ n cs, traceF f n q = some cs ∧ cs.length ≤ 1000 ∧ runF cs.reverse p0 = some q) := by
  obtain ⟨m, f, e, g, h⟩ := walked_ok c h0 (some q)
  have hq : q ∈ C → hasK f q = true := fun z => h.elim id fun h => h q z
  refine ⟨m, f, e, ?_, fun z => ?_⟩
  · rw [Bool.eq_iff_iff, decide_eq_true_iff]
    exact ⟨g.sub c h0 q, hq⟩
  · obtain ⟨cs, h1, h2, h3⟩ := g.trace c h0 q (hq z)
    have l := g.len c h0
    have few := c.few
    exact ⟨_, cs, h1, by omega, h3⟩
theorem all_ok {C : List Pl} (c : Cls C) {p0 : Pl} (h0 : p0 ∈ C) : ∃ m f, walkedF none m [(p0, none)] [p0] = some f ∧ (∀ e ∈ f, e.1 ∈ C) ∧ (f.map (·.1)).Perm C := by
  obtain ⟨m, f, e, g, h⟩ := walked_ok c h0 none
  have h : ∀ q ∈ C, hasK f q = true := h.elim (fun z => nomatch z) id
  refine ⟨m, f, e, fun x hx => g.sub c h0 _ (hasK_iff.mpr (List.mem_map.mpr ⟨x, hx, rfl⟩)), ?_⟩
  exact (List.perm_ext_iff_of_nodup g.nd c.nd).mpr fun q => ⟨fun z => g.sub c h0 q (hasK_iff.mpr z), fun z => hasK_iff.mp (h q z)⟩
end PR
end
section
set_option Elab.async false
set_option linter.all false
set_option maxRecDepth 100000
set_option maxHeartbeats 1600000
/-! PrM3: sorting, by a sort that the kernel runs. -/
namespace PR
open PySem
def insG {α : Type} (le : α → α → Bool) (x : α) : List α → List α
  | [] => [x]
  | y :: r => if le x y then x :: y :: r else y :: insG le x r
def isortG {α : Type} (le : α → α → Bool) : List α → List α
  | [] => []
  | x :: r => insG le x (isortG le r)
section
variable {α : Type} {le : α → α → Bool}
theorem insG_perm (x : α) : ∀ l : List α, (insG le x l).Perm (x :: l)
  | [] => List.Perm.refl _
  | y :: r => by
    unfold insG
    split
    · exact List.Perm.refl _
    · exact ((insG_perm x r).cons y).trans (List.Perm.swap x y r)
theorem isortG_perm : ∀ l : List α, (isortG le l).Perm l
  | [] => List.Perm.refl _
  | x :: r => (insG_perm x _).trans ((isortG_perm r).cons x)
theorem insG_sorted (tr : ∀ a b c, le a b = true → le b c = true → le a c = true) (to : ∀ a b, (le a b || le b a) = true) (x : α) : ∀ l : List α, l.Pairwise (fun a b => le a b = true) → (insG le x l).Pairwise fun a b => le a b = true
  | [], _ => List.pairwise_singleton _ _
  | y :: r, h => by
    unfold insG
    have h' := List.pairwise_cons.mp h
    split
    · rename_i z
      exact List.pairwise_cons.mpr ⟨fun w hw => (List.mem_cons.mp hw).elim (fun e => by rw [e]; exact z) fun q => tr _ _ _ z (h'.1 w q), h⟩
    · rename_i z
      refine List.pairwise_cons.mpr ⟨fun w hw => ?_, insG_sorted tr to x r h'.2⟩
      rcases List.mem_cons.mp ((insG_perm x r).mem_iff.mp hw) with e | q
      · rw [e]
        have := to x y
        rw [Bool.or_eq_true] at this
        exact this.resolve_left z
      · exact h'.1 w q
theorem isortG_sorted (tr : ∀ a b c, le a b = true → le b c = true → le a c = true) (to : ∀ a b, (le a b || le b a) = true) : ∀ l : List α, (isortG le l).Pairwise fun a b => le a b = true
  | [] => List.Pairwise.nil
  | x :: r => insG_sorted tr to x _ (isortG_sorted tr to r)
theorem merge_isort (tr : ∀ a b c, le a b = true → le b c = true → le a c = true) (to : ∀ a b, (le a b || le b a) = true) (an : ∀ a b, le a b = true → le b a = true → a = b) {l m : List α} (p : l.Perm m) : l.mergeSort le = isortG le m :=
  List.Perm.eq_of_pairwise (fun a b _ _ => an a b) (List.pairwise_mergeSort tr to l) (isortG_sorted tr to m) ((List.mergeSort_perm l le).trans (p.trans (isortG_perm m).symm))
end
def leI (a b : Int) : Bool := decide (a ≤ b)
def leP (a b : List Int) : Bool := !HT.lexLt b a
theorem lex_eq : ∀ a b : List Int, HT.lexLt a b = decide (a < b)
  | [], [] => rfl
  | [], y :: b => by simp [HT.lexLt]
  | x :: a, [] => by simp [HT.lexLt]
  | x :: a, y :: b => by
    rw [HT.lexLt_cons, lex_eq a b]
    by_cases h : x = y
    · rw [if_pos h]
      simp [h, List.cons_lt_cons_iff]
    · rw [if_neg h]
      simp [h, List.cons_lt_cons_iff]
theorem leP_iff (a b : List Int) : leP a b = true ↔ a ≤ b := by
  unfold leP
  rw [lex_eq]
  by_cases h : b < a
  · simp [h, List.not_le.mpr h]
  · simp [h, List.not_lt.mp h]
theorem dataLe_encT : PySem.W.dataLe false encT = leP := by
  funext a b
  show (!PySem.W.dataLt (encT b) (encT a)) = _
  unfold leP
  rw [lex_eq, PySem.W.dataLt_tuple]
  show (!PySem.W.rowLt (b.map .int) (a.map .int)) = _
  rw [PySem.W.dataLt_ints]
theorem sortI_isort {a b : List Int} (p : a.Perm b) : sortI a = isortG leI b :=
  merge_isort (le := leI) (fun a b c h k => decide_eq_true (Int.le_trans (of_decide_eq_true h) (of_decide_eq_true k))) (fun a b => by
    rw [Bool.or_eq_true]
    exact (Int.le_total a b).imp decide_eq_true decide_eq_true) (fun a b h k => Int.le_antisymm (of_decide_eq_true h) (of_decide_eq_true k)) p
theorem sortP_isort {a b : List (List Int)} (p : a.Perm b) : sortP a = isortG leP b := by
  unfold sortP
  rw [dataLe_encT]
  exact merge_isort (le := leP) (fun a b c h k => (leP_iff _ _).mpr (List.le_trans ((leP_iff _ _).mp h) ((leP_iff _ _).mp k))) (fun a b => by
    rw [Bool.or_eq_true]
    exact (List.le_total a b).imp (leP_iff a b).mpr (leP_iff b a).mpr) (fun a b h k => List.le_antisymm ((leP_iff _ _).mp h) ((leP_iff _ _).mp k)) p
end PR
end
section
set_option Elab.async false
set_option linter.all false
set_option maxRecDepth 100000
set_option maxHeartbeats 1600000
/-! PrM4: what the rows give is told by their places. -/
namespace PR
open PySem
abbrev em : Str := Str.empty
structure Two (n : Nat) (u l : List Str) : Prop where
  nd : u.Nodup
  len : u.length = n
  pm : l.Perm u
section
variable {n : Nat} {u l : List Str}
theorem Two.ndl (h : Two n u l) : l.Nodup := h.pm.nodup_iff.mpr h.nd
theorem Two.lenl (h : Two n u l) : l.length = n := h.pm.length_eq.trans h.len
theorem idx_at {r : List Str} (nd : r.Nodup) {i : Nat} (hi : i < r.length) : r.idxOf (r.getD i em) = i := by
  rw [List.getD_eq_getElem?_getD, List.getElem?_eq_getElem hi]
  exact nd.idxOf_getElem i hi
theorem at_idx {r : List Str} {x : Str} (h : x ∈ r) : r.getD (r.idxOf x) em = x := by
  have hi := List.idxOf_lt_length_of_mem h
  rw [List.getD_eq_getElem?_getD, List.getElem?_eq_getElem hi]
  exact List.getElem_idxOf hi
theorem at_mem {r : List Str} {i : Nat} (hi : i < r.length) : r.getD i em ∈ r := by
  rw [List.getD_eq_getElem?_getD, List.getElem?_eq_getElem hi]
  exact List.getElem_mem hi
theorem idx_inj {r : List Str} {x y : Str} (hx : x ∈ r) (hy : y ∈ r) (e : r.idxOf x = r.idxOf y) : x = y := by
  rw [← at_idx hx, ← at_idx hy, e]
theorem list_at (r : List Str) : r = (List.range r.length).map fun i => r.getD i em := by
  refine List.ext_getElem (by simp) fun i h1 h2 => ?_
  rw [List.getElem_map, List.getElem_range, List.getD_eq_getElem?_getD, List.getElem?_eq_getElem h1]
  rfl
theorem Two.at (h : Two n u l) {i : Nat} (hi : i < n) : u.getD i em ∈ u := at_mem (by rw [h.len]; exact hi)
theorem Two.atl (h : Two n u l) {i : Nat} (hi : i < n) : l.getD i em ∈ l := at_mem (by rw [h.lenl]; exact hi)
theorem Two.pu (h : Two n u l) {i : Nat} (hi : i < n) : pos u (u.getD i em) = i := by
  unfold pos
  rw [idx_at h.nd (by rw [h.len]; exact hi)]
theorem plc_len (u l : List Str) : (plc u l).length = u.length := by
  unfold plc
  exact List.length_map _
theorem Two.lp (h : Two n u l) : (plc u l).length = n := (plc_len u l).trans h.len
theorem Two.pl (h : Two n u l) {i : Nat} (hi : i < n) : (plc u l).getD i 0 = pos l (u.getD i em) := by
  unfold plc
  rw [List.getD_eq_getElem?_getD, List.getElem?_map, List.getD_eq_getElem?_getD, List.getElem?_eq_getElem (by rw [h.len]; exact hi)]
  rfl
theorem Two.rg (h : Two n u l) {i : Nat} (hi : i < n) : ∃ j, j < n ∧ (plc u l).getD i 0 = (j : Int) := by
  refine ⟨l.idxOf (u.getD i em), ?_, h.pl hi⟩
  have := List.idxOf_lt_length_of_mem (h.pm.mem_iff.mpr (h.at hi))
  rwa [h.lenl] at this
theorem idx_map {α β : Type} [DecidableEq α] [DecidableEq β] (f : α → β) {y : α} : ∀ {r : List α}, (∀ z ∈ r, f z = f y → z = y) → (r.map f).idxOf (f y) = r.idxOf y
  | [], _ => rfl
  | z :: r, h => by
    rw [List.map_cons, List.idxOf_cons, List.idxOf_cons, idx_map f fun w hw => h w (List.mem_cons_of_mem _ hw)]
    by_cases e : z = y
    · subst e
      simp
    · have e' : ¬ f z = f y := fun q => e (h z List.mem_cons_self q)
      rw [beq_eq_false_iff_ne.mpr e, beq_eq_false_iff_ne.mpr e']
theorem pos_inj {r : List Str} {x y : Str} (hx : x ∈ r) (hy : y ∈ r) (e : pos r x = pos r y) : x = y := idx_inj hx hy (Int.ofNat.inj e)
/-- the upper place of the lower name at j -/
theorem Two.inv (h : Two n u l) {j : Nat} (hj : j < n) : u.idxOf (l.getD j em) = (plc u l).idxOf (j : Int) := by
  have e : (j : Int) = pos l (l.getD j em) := by
    unfold pos
    rw [idx_at h.ndl (by rw [h.lenl]; exact hj)]
  rw [e]
  unfold plc
  exact (idx_map (pos l) fun z hz q => pos_inj (h.pm.mem_iff.mpr hz) (h.atl hj) q).symm
/-! ### the rows of forms -/
def fm (p : List Int) (i j : Nat) : Int := if i = j then 0 else if decide (i < j) = decide (p.getD i 0 < p.getD j 0) then 0 else if i < j then 1 else -1
def rowsQ (p : List Int) : List Int := (List.range p.length).map fun i => ((List.range p.length).map fun j => (if fm p i j = 0 then (0 : Int) else 1) * 2 ^ j).sum
theorem Two.form (h : Two n u l) {i j : Nat} (hi : i < n) (hj : j < n) : formI u l (u.getD i em) (u.getD j em) = fm (plc u l) i j := by
  unfold formI fm
  rw [h.pu hi, h.pu hj, ← h.pl hi, ← h.pl hj]
  have e : (u.getD i em = u.getD j em) ↔ i = j := ⟨fun q => by
    have := h.pu hi
    rw [q, h.pu hj] at this
    exact (Int.ofNat.inj this).symm, fun q => by rw [q]⟩
  have e2 : ((i : Int) < (j : Int)) ↔ i < j := Int.ofNat_lt
  simp only [e, e2]
theorem Two.rows (h : Two n u l) : rowsF u l = rowsQ (plc u l) := by
  have e : rowsF u l = ((List.range u.length).map fun i => u.getD i em).map (rowF u l) := congrArg (List.map (rowF u l)) (list_at u)
  rw [e, h.len]
  unfold rowsQ
  rw [h.lp, List.map_map]
  refine List.map_congr_left fun i hi => ?_
  have hi := List.mem_range.mp hi
  show rowF u l (u.getD i em) = _
  unfold rowF
  rw [h.len]
  refine congrArg List.sum (List.map_congr_left fun j hj => ?_)
  have hj := List.mem_range.mp hj
  rw [h.form hi hj]
/-! ### the walk -/
def walkQ (p : List Int) : List Int := (p.idxOf 0 : Nat) :: p.map fun a => if a < (p.length : Int) - 1 then ((p.idxOf (a + 1) : Nat) : Int) else p.length
theorem drop_mem {r : List Str} (nd : r.Nodup) {x : Str} (hx : x ∈ r) : (x ∈ r.dropLast ↔ r.idxOf x < r.length - 1) ∧ (x ∈ r.dropLast → r.dropLast.idxOf x = r.idxOf x) := by
  obtain ⟨s, z, rfl⟩ := List.eq_nil_or_concat r |>.resolve_left fun e => by subst e; exact nomatch hx
  rw [List.concat_eq_append] at *
  have e1 : (s ++ [z]).dropLast = s := by simp
  rw [e1, List.idxOf_append, List.length_append, List.length_singleton]
  by_cases q : x ∈ s
  · rw [if_pos q]
    exact ⟨⟨fun _ => by have := List.idxOf_lt_length_of_mem q; omega, fun _ => q⟩, fun _ => rfl⟩
  · rw [if_neg q]
    exact ⟨⟨fun z => absurd z q, fun z => by omega⟩, fun z => absurd z q⟩
theorem Two.walk (h : Two n u l) (h1 : 1 ≤ n) : walkI u l = walkQ (plc u l) := by
  unfold walkI walkQ
  rw [h.lp]
  have e0 : pos u (l.getD 0 em) = ((plc u l).idxOf ((0 : Nat) : Int) : Nat) := by
    unfold pos
    rw [h.inv h1]
  refine congr (congrArg _ e0) ?_
  conv => rhs; unfold plc
  rw [List.map_map]
  refine List.map_congr_left fun x hx => ?_
  have hxl := h.pm.mem_iff.mpr hx
  have d := drop_mem h.ndl hxl
  have hl := List.idxOf_lt_length_of_mem hxl
  rw [h.lenl] at d hl
  show walkF u l x = if pos l x < (n : Int) - 1 then (((plc u l).idxOf (pos l x + 1) : Nat) : Int) else (n : Int)
  unfold walkF
  by_cases q : x ∈ l.dropLast
  · have q1 := d.1.mp q
    rw [if_pos q, if_pos (by unfold pos; omega), d.2 q]
    unfold pos
    rw [h.inv (by omega)]
    rfl
  · have q1 : ¬ l.idxOf x < n - 1 := fun z => q (d.1.mpr z)
    rw [if_neg q, if_neg (by unfold pos; omega), h.len]
/-! ### whole rows -/
def wholeQ (p : List Int) : Bool := decide (1 < p.length) && (List.range (p.length - 1)).all fun k => (p.take (k + 1)).any fun a => decide (((k : Int) + 1) ≤ a)
theorem take_idx {r : List Str} (nd : r.Nodup) {x : Str} (hx : x ∈ r) (k : Nat) : x ∈ r.take k ↔ r.idxOf x < k := by
  constructor
  · intro h
    have h1 := List.idxOf_lt_length_of_mem h
    have e := List.idxOf_append (l₁ := r.take k) (l₂ := r.drop k) (a := x)
    rw [if_pos h, List.take_append_drop] at e
    rw [e]
    rw [List.length_take] at h1
    omega
  · intro h
    rw [List.mem_take_iff_getElem]
    have h1 := List.idxOf_lt_length_of_mem hx
    exact ⟨r.idxOf x, by omega, List.getElem_idxOf h1⟩
theorem Two.whole (h : Two n u l) : lwholeB u l = wholeQ (plc u l) := by
  unfold lwholeB wholeQ
  rw [h.lp, h.len]
  refine congrArg _ ?_
  rw [Bool.eq_iff_iff, List.isEmpty_iff, List.all_eq_true]
  unfold lcuts
  rw [List.filter_eq_nil_iff, h.len]
  refine forall_congr' fun k => forall_congr' fun hk => ?_
  have hk := List.mem_range.mp hk
  unfold lcutB
  rw [decide_eq_true_iff, List.any_eq_true]
  have el : (u.take (k + 1)).length = (l.take (k + 1)).length := by rw [List.length_take, List.length_take, h.len, h.lenl]
  constructor
  · intro q
    refine Classical.byContradiction fun w => q ⟨el, fun x hx => ?_⟩
    have hxu : x ∈ u := List.mem_of_mem_take hx
    have hxl := h.pm.mem_iff.mpr hxu
    rw [take_idx h.ndl hxl]
    refine Classical.byContradiction fun w2 => w ⟨pos l x, ?_, decide_eq_true (by unfold pos; omega)⟩
    unfold plc
    rw [← List.map_take]
    exact List.mem_map.mpr ⟨x, hx, rfl⟩
  · rintro ⟨a, ha, hka⟩ ⟨_, q⟩
    unfold plc at ha
    rw [← List.map_take] at ha
    obtain ⟨x, hx, rfl⟩ := List.mem_map.mp ha
    have hxl := q x hx
    have hxl' : x ∈ l := List.mem_of_mem_take hxl
    rw [take_idx h.ndl hxl'] at hxl
    have := of_decide_eq_true hka
    unfold pos at this
    omega
/-! ### an order of 0, 1 ... -/
theorem plc_perm (h : Two n u l) : (plc u l).Perm ((List.range n).map fun i : Nat => (i : Int)) := by
  have h1 : (plc u l).Perm (l.map (pos l)) := (h.pm.map (pos l)).symm
  refine h1.trans (List.Perm.of_eq ?_)
  have e : l.map (pos l) = ((List.range l.length).map fun i => l.getD i em).map (pos l) := congrArg (List.map (pos l)) (list_at l)
  rw [e, h.lenl, List.map_map]
  refine List.map_congr_left fun i hi => ?_
  have hi := List.mem_range.mp hi
  show pos l (l.getD i em) = _
  unfold pos
  rw [idx_at h.ndl (by rw [h.lenl]; exact hi)]
end
end PR
end
section
set_option Elab.async false
set_option linter.all false
set_option maxRecDepth 100000
set_option maxHeartbeats 1600000
/-! PrM5: the marks are told by the places. -/
namespace PR
open PySem
/-! ### the program's marks -/
def parQ (p : List Int) : Option Int := (frameF (rowsQ p) p.length 100 (bitsI p.length) [] []).map fun r => parF (rowsQ p) p.length r.1 r.2
def angQ (p : List Int) : Option (List Int) := (cornersF (walkQ p) (List.range (walkQ p).length) [] []).bind fun cs => if cs.all (fun c => decide (c.length ≤ 1000)) && decide (cs.length ≤ 1000) && decide (cs ≠ []) then some (cs.map fun c => ((angleN c p.length : Nat) : Int)) else none
def marksQ (p : List Int) : Option (List Int × Int × Int) := (angQ p).bind fun an => (parQ p).map fun q => (isortG leI an, an.headD 0, q)
section
variable {n : Nat} {u l : List Str}
theorem Two.marks (h : Two n u l) (h1 : 1 ≤ n) : marksP u l = marksQ (plc u l) := by
  have e1 : angP u l = angQ (plc u l) := by
    unfold angP angQ
    rw [h.walk h1, plc_len]
  have e2 : parP u l = parQ (plc u l) := by
    unfold parP parQ
    rw [h.rows, plc_len]
  unfold marksP marksQ
  rw [e1, e2]
  refine congrArg _ (funext fun an => congrArg (fun f => Option.map f _) (funext fun q => ?_))
  rw [sortI_isort (List.Perm.refl an)]
end
/-! ### the law's parity -/
section
variable {α : Type}
def deg (g : α → α → Bool) (x : α) (t : List α) : Nat := (t.filter (g x)).length
def cntQ (g : α → α → Bool) : List α → List α → Nat → Nat
  | [], _, s => if s % 2 = 1 then 1 else 0
  | x :: r, t, s => cntQ g r t s + cntQ g r (x :: t) (s + 1 + deg g x t)
def sizQ (g : α → α → Bool) : List α → Nat
  | [] => 0
  | x :: r => sizQ g r + 1 + deg g x r
theorem deg_cons (g : α → α → Bool) (x y : α) (t : List α) : deg g x (y :: t) = deg g x [y] + deg g x t := by
  unfold deg
  rw [List.filter_cons, List.filter_cons]
  split <;> simp <;> omega
theorem deg_perm (g : α → α → Bool) (x : α) {t t' : List α} (h : t.Perm t') : deg g x t = deg g x t' := (h.filter (g x)).length_eq
theorem deg_sym {g : α → α → Bool} (sy : ∀ x y, g x y = g y x) (x y : α) : deg g x [y] = deg g y [x] := by
  unfold deg
  rw [List.filter_cons, List.filter_cons, sy x y]
  split <;> rfl
theorem cntQ_perm {g : α → α → Bool} : ∀ (r : List α) {t t' : List α} (s : Nat), t.Perm t' → cntQ g r t s = cntQ g r t' s
  | [], _, _, _, _ => rfl
  | x :: r, t, t', s, h => by
    unfold cntQ
    rw [cntQ_perm r s h, cntQ_perm r _ (h.cons x), deg_perm g x h]
theorem cntQ_rest {g : α → α → Bool} (sy : ∀ x y, g x y = g y x) {r r' : List α} (h : r.Perm r') : ∀ (t : List α) (s : Nat), cntQ g r t s = cntQ g r' t s := by
  induction h with
  | nil => exact fun _ _ => rfl
  | cons x h ih =>
    intro t s
    unfold cntQ
    rw [ih, ih]
  | swap x y r =>
    intro t s
    simp only [cntQ]
    have e1 := cntQ_perm (g := g) r (s + 1 + deg g y t + 1 + deg g x (y :: t)) (List.Perm.swap x y t).symm
    have e2 : s + 1 + deg g y t + 1 + deg g x (y :: t) = s + 1 + deg g x t + 1 + deg g y (x :: t) := by
      rw [deg_cons g x y t, deg_cons g y x t, deg_sym sy x y]
      omega
    rw [e2] at e1
    rw [e2]
    have e3 := cntQ_perm (g := g) r (s + 1 + deg g x t + 1 + deg g y (x :: t)) (List.Perm.swap x y t)
    rw [e3]
    omega
  | trans h1 h2 i1 i2 => exact fun t s => (i1 t s).trans (i2 t s)
theorem sizQ_perm {g : α → α → Bool} (sy : ∀ x y, g x y = g y x) {r r' : List α} (h : r.Perm r') : sizQ g r = sizQ g r' := by
  induction h with
  | nil => rfl
  | cons x h ih =>
    unfold sizQ
    rw [ih, deg_perm g x h]
  | swap x y r =>
    simp only [sizQ]
    rw [deg_cons g x y r, deg_cons g y x r, deg_sym sy x y]
    omega
  | trans h1 h2 i1 i2 => exact i1.trans i2
theorem cntQ_map {β : Type} (f : β → α) (g : α → α → Bool) : ∀ (r t : List β) (s : Nat), cntQ g (r.map f) (t.map f) s = cntQ (fun i j => g (f i) (f j)) r t s
  | [], _, _ => rfl
  | x :: r, t, s => by
    rw [List.map_cons]
    unfold cntQ
    have e : deg g (f x) (t.map f) = deg (fun i j => g (f i) (f j)) x t := by
      unfold deg
      rw [List.filter_map, List.length_map]
      rfl
    rw [cntQ_map f g r t s, e, ← List.map_cons, cntQ_map f g r (x :: t)]
theorem cntQ_congr {g g' : α → α → Bool} : ∀ (r t : List α) (s : Nat), (∀ x ∈ r, ∀ y ∈ r ++ t, g x y = g' x y) → cntQ g r t s = cntQ g' r t s
  | [], _, _, _ => rfl
  | x :: r, t, s, h => by
    unfold cntQ
    have e : deg g x t = deg g' x t := by
      unfold deg
      rw [List.filter_congr fun y hy => h x List.mem_cons_self y (List.mem_append_right _ hy)]
    rw [e, cntQ_congr r t s fun z hz y hy => h z (List.mem_cons_of_mem _ hz) y (by
      rcases List.mem_append.mp hy with q | q
      · exact List.mem_append_left _ (List.mem_cons_of_mem _ q)
      · exact List.mem_append_right _ q), cntQ_congr r (x :: t) _ fun z hz y hy => h z (List.mem_cons_of_mem _ hz) y (by
      rcases List.mem_append.mp hy with q | q
      · exact List.mem_append_left _ (List.mem_cons_of_mem _ q)
      · rcases List.mem_cons.mp q with q | q
        · rw [q]; exact List.mem_append_left _ List.mem_cons_self
        · exact List.mem_append_right _ q)]
end
abbrev gB (u l : List Str) (x y : Str) : Bool := decide (lformI u l x y ≠ 0)
theorem lform_ne (u l : List Str) (x y : Str) : lformI u l x y ≠ 0 ↔ (pos u x < pos u y ∧ pos l y < pos l x) ∨ (pos u y < pos u x ∧ pos l x < pos l y) := by
  unfold lformI
  simp only [Bool.and_eq_true, decide_eq_true_iff]
  split <;> split <;> omega
theorem lform_sym (u l : List Str) (x y : Str) : gB u l x y = gB u l y x := by
  unfold gB
  refine decide_eq_decide.mpr ?_
  rw [lform_ne, lform_ne]
  omega
def gq (p : List Int) (i j : Nat) : Bool := if i < j then decide (p.getD j 0 < p.getD i 0) else decide (j < i) && decide (p.getD i 0 < p.getD j 0)
theorem Two.gB {n : Nat} {u l : List Str} (h : Two n u l) {i j : Nat} (hi : i < n) (hj : j < n) : gB u l (u.getD i em) (u.getD j em) = gq (plc u l) i j := by
  unfold PR.gB gq
  rw [h.pl hi, h.pl hj, Bool.eq_iff_iff, decide_eq_true_iff, lform_ne, h.pu hi, h.pu hj]
  split
  · rw [decide_eq_true_iff]
    omega
  · rw [Bool.and_eq_true, decide_eq_true_iff, decide_eq_true_iff]
    omega
/-! ### the law's size -/
theorem lsize_tail (g : Str → Str → Int) (x : Str) (r : List Str) : ∀ i, lsizeF g (x :: r) (i + 1) = lsizeF g r i + 1 + (deg (fun x y => decide (g x y ≠ 0)) x r : Nat)
  | 0 => by
    show ((r.length + 1 : Nat) : Int) + (((r.drop 0).filter fun y => decide (g x y ≠ 0)).length : Int) = (r.length : Int) + 1 + ((r.filter fun y => decide (g x y ≠ 0)).length : Int)
    rw [List.drop_zero]
    omega
  | i + 1 => by
    rw [lsizeF, lsize_tail g x r i]
    show _ + (((r.drop (i + 1)).filter fun y => decide (g (r.getD i Str.empty) y ≠ 0)).length : Int) = lsizeF g r i + (((r.drop (i + 1)).filter fun y => decide (g (r.getD i Str.empty) y ≠ 0)).length : Int) + 1 + _
    omega
theorem lsize_eq (g : Str → Str → Int) : ∀ r : List Str, lsizeF g r r.length = (sizQ (fun x y => decide (g x y ≠ 0)) r : Nat)
  | [] => rfl
  | x :: r => by
    rw [List.length_cons, lsize_tail, lsize_eq g r]
    show _ = ((sizQ (fun x y => decide (g x y ≠ 0)) r + 1 + deg (fun x y => decide (g x y ≠ 0)) x r : Nat) : Int)
    omega
theorem subs_len : ∀ (r : List Str) (s : List (List Str)), (subsF r s).length = 2 ^ r.length * s.length
  | [], s => (Nat.one_mul _).symm
  | x :: r, s => by
    unfold subsF
    rw [subs_len r, List.length_append, List.length_map, List.length_cons, Nat.pow_succ, ← Nat.two_mul, Nat.mul_assoc]
theorem subs_cnt {u l : List Str} : ∀ (r : List Str) (s : List (List Str)), loddF u l (subsF r s) = (s.map fun t => cntQ (gB u l) r t (sizQ (gB u l) t)).sum
  | [], s => by
    unfold subsF loddF
    induction s with
    | nil => rfl
    | cons t s ih =>
      rw [List.filter_cons, List.map_cons, List.sum_cons, ← ih]
      have e0 : lsizeF (lformI u l) t t.length = (sizQ (gB u l) t : Nat) := lsize_eq _ _
      rw [e0]
      show _ = (if sizQ (gB u l) t % 2 = 1 then 1 else 0) + _
      by_cases e : sizQ (gB u l) t % 2 = 1
      · rw [if_pos e, if_pos (decide_eq_true (by omega)), List.length_cons]
        omega
      · rw [if_neg e, if_neg (by rw [decide_eq_true_iff]; omega)]
        omega
  | x :: r, s => by
    unfold subsF
    rw [subs_cnt r, List.map_append, List.sum_append, List.map_map]
    have e : ∀ t, ((fun t => cntQ (gB u l) r t (sizQ (gB u l) t)) ∘ fun t => t ++ [x]) t = cntQ (gB u l) r (x :: t) (sizQ (gB u l) t + 1 + deg (gB u l) x t) := fun t => by
      show cntQ (gB u l) r (t ++ [x]) (sizQ (gB u l) (t ++ [x])) = _
      have pm : (t ++ [x]).Perm (x :: t) := List.perm_append_singleton x t
      rw [cntQ_perm r _ pm, sizQ_perm (lform_sym u l) pm]
      rfl
    rw [List.map_congr_left fun t _ => e t]
    have ex : ∀ t s, cntQ (gB u l) (x :: r) t s = cntQ (gB u l) r t s + cntQ (gB u l) r (x :: t) (s + 1 + deg (gB u l) x t) := fun _ _ => rfl
    simp only [ex]
    induction s with
    | nil => rfl
    | cons t s ih =>
      simp only [List.map_cons, List.sum_cons] at ih ⊢
      omega
def oddQ (p : List Int) : Nat := cntQ (gq p) (List.range p.length) [] 0
def lparQ (p : List Int) : Int := (if decide (2 * oddQ p < 2 ^ p.length) then 1 else 0) - (if decide (2 * oddQ p > 2 ^ p.length) then 1 else 0)
def langQ (p : List Int) : List Int := (isortG leP (cornL p)).map (cntF p.length)
def lmarkQ (p : List Int) : List Int × Int × Int := (isortG leI (langQ p), (langQ p).headD 0, lparQ p)
theorem Two.odd {n : Nat} {u l : List Str} (h : Two n u l) : loddF u l (subsF (sortS u) [[]]) = oddQ (plc u l) := by
  rw [subs_cnt]
  show cntQ (PR.gB u l) (sortS u) [] 0 + 0 = _
  have pm : (sortS u).Perm u := List.mergeSort_perm _ _
  rw [cntQ_rest (lform_sym u l) pm]
  unfold oddQ
  rw [h.lp]
  have e : cntQ (PR.gB u l) u [] 0 = cntQ (PR.gB u l) ((List.range n).map fun i => u.getD i em) (([] : List Nat).map fun i => u.getD i em) 0 := by
    rw [← h.len, ← list_at u]
    rfl
  rw [e, cntQ_map]
  refine cntQ_congr _ _ _ fun i hi j hj => ?_
  rw [List.append_nil] at hj
  exact h.gB (List.mem_range.mp hi) (List.mem_range.mp hj)
theorem Two.lmark {n : Nat} {u l : List Str} (h : Two n u l) : lmarkF u l = lmarkQ (plc u l) := by
  have e1 : langF (plc u l) = langQ (plc u l) := by
    unfold langF langQ
    rw [sortP_isort (List.Perm.refl _)]
  have e2 : lparF u l = lparQ (plc u l) := by
    unfold lparF lparQ
    have pm : (sortS u).Perm u := List.mergeSort_perm _ _
    rw [h.odd, subs_len, h.lp, pm.length_eq, h.len]
    have k : ((2 ^ n * [([] : List Str)].length : Nat) : Int) = ((2 ^ n : Nat) : Int) := by
      show ((2 ^ n * 1 : Nat) : Int) = _
      rw [Nat.mul_one]
    rw [k]
    have k1 : decide ((2 : Int) * (oddQ (plc u l) : Int) < ((2 ^ n : Nat) : Int)) = decide (2 * oddQ (plc u l) < 2 ^ n) := decide_eq_decide.mpr (by omega)
    have k2 : decide ((2 : Int) * (oddQ (plc u l) : Int) > ((2 ^ n : Nat) : Int)) = decide (2 * oddQ (plc u l) > 2 ^ n) := decide_eq_decide.mpr (by omega)
    rw [k1, k2]
  unfold lmarkF lmarkQ
  rw [e1, e2, sortI_isort (List.Perm.refl _)]
end PR
end
section
set_option Elab.async false
set_option linter.all false
set_option maxRecDepth 100000
set_option maxHeartbeats 1600000
/-! PrM6: a round on rows is a round on places. -/
namespace PR
open PySem
theorem cut_last {r : List Str} (nd : r.Nodup) (hne : r ≠ []) : ∃ s z, r = s ++ [z] ∧ z ∉ s ∧ s.Nodup ∧ r.dropLast = s ∧ r.getLastD Str.empty = z ∧ r.filter (fun w => w != z) = s := by
  obtain ⟨s, z, rfl⟩ := List.eq_nil_or_concat r |>.resolve_left hne
  rw [List.concat_eq_append] at *
  obtain ⟨h1, h2, h3⟩ := List.nodup_append.mp nd
  have hz : z ∉ s := fun q => h3 z q z (List.mem_singleton.mpr rfl) rfl
  refine ⟨s, z, rfl, hz, h1, by simp, by simp, ?_⟩
  rw [List.filter_append, List.filter_cons]
  simp only [bne_self_eq_false, Bool.false_eq_true, if_false, List.filter_nil, List.append_nil]
  rw [List.filter_eq_self]
  intro a ha
  rw [bne_iff_ne]
  exact fun e => hz (e ▸ ha)
def putAt (s : List Str) (z y : Str) : List Str := s.take (s.idxOf y + 1) ++ z :: s.drop (s.idxOf y + 1)
theorem putAt_perm (s : List Str) (z y : Str) : (putAt s z y).Perm (s ++ [z]) := by
  unfold putAt
  refine List.perm_middle.trans ?_
  rw [List.take_append_drop]
  exact (List.perm_append_singleton z s).symm
theorem put_idx {s : List Str} (nd : s.Nodup) {z x : Str} (hx : x ∈ s) (hz : z ≠ x) {j : Nat} (hj : j ≤ s.length) : (s.take j ++ z :: s.drop j).idxOf x = s.idxOf x + if s.idxOf x < j then 0 else 1 := by
  have e := List.idxOf_append (l₁ := s.take j) (l₂ := s.drop j) (a := x)
  rw [List.take_append_drop] at e
  rw [List.idxOf_append]
  by_cases h : x ∈ s.take j
  · rw [if_pos h] at e ⊢
    rw [if_pos ((take_idx nd hx j).mp h), e]
    rfl
  · rw [if_neg h] at e ⊢
    rw [if_neg fun q => h ((take_idx nd hx j).mpr q), List.idxOf_cons, beq_eq_false_iff_ne.mpr hz, e]
    show _ + 1 + _ = _
    omega
theorem put_self {s : List Str} {z : Str} (hz : z ∉ s) {j : Nat} (hj : j ≤ s.length) : (s.take j ++ z :: s.drop j).idxOf z = j := by
  rw [List.idxOf_append, if_neg fun q => hz (List.mem_of_mem_take q), List.idxOf_cons_self, List.length_take]
  omega
section
variable {n : Nat} {u l : List Str}
theorem getLast_at {r : List Str} (hne : r ≠ []) : r.getLastD Str.empty = r.getD (r.length - 1) em := by
  obtain ⟨s, z, rfl⟩ := List.eq_nil_or_concat r |>.resolve_left hne
  rw [List.concat_eq_append]
  simp
theorem lastI (p : List Int) (hne : p ≠ []) : p.getLastD 0 = p.getD (p.length - 1) 0 := by
  obtain ⟨s, z, rfl⟩ := List.eq_nil_or_concat p |>.resolve_left hne
  rw [List.concat_eq_append]
  simp
structure Led (k : Bool) (n : Nat) (u l : List Str) : Prop where
  two : Two n (ledF k u l).1 (ledF k u l).2
  up : (ledF k u l).1.Perm u
  eq : lledF k u l = ledF k u l
  ok : lledOk k u l = true
  ne : u.getLastD Str.empty ≠ l.getLastD Str.empty
  next : plc (ledF k u l).1 (ledF k u l).2 = nextI k (plc u l)
theorem Two.led (h : Two n u l) (n1 : 1 ≤ n) (n2 : n ≤ 1000) (hl : (plc u l).getLastD 0 ≠ (n : Int) - 1) (k : Bool) : Led k n u l := by
  have une : u ≠ [] := fun e => by
    have := h.len
    rw [e] at this
    exact absurd this (by show ¬ 0 = n; omega)
  have lne : l ≠ [] := fun e => by
    have := h.lenl
    rw [e] at this
    exact absurd this (by show ¬ 0 = n; omega)
  have pne : plc u l ≠ [] := fun e => by
    have := h.lp
    rw [e] at this
    exact absurd this (by show ¬ 0 = n; omega)
  obtain ⟨s, z, eu, zs, nds, du, lu, fu⟩ := cut_last h.nd une
  obtain ⟨t, y, el, yt, ndt, dl, ll, fl⟩ := cut_last h.ndl lne
  have ls : s.length = n - 1 := by have := h.len; rw [eu, List.length_append, List.length_singleton] at this; omega
  have lt : t.length = n - 1 := by have := h.lenl; rw [el, List.length_append, List.length_singleton] at this; omega
  have zl : z ∈ l := h.pm.mem_iff.mpr (by rw [eu]; simp)
  have yu : y ∈ u := h.pm.mem_iff.mp (by rw [el]; simp)
  have lastp : (plc u l).getLastD 0 = (l.idxOf z : Nat) := by
    rw [lastI _ pne, h.lp, h.pl (by omega)]
    have : u.getD (n - 1) em = z := by rw [← lu, getLast_at une, h.len]
    rw [this]
    rfl
  have iy : l.idxOf y = n - 1 := by rw [el, List.idxOf_append, if_neg yt, List.idxOf_cons_self, lt]; omega
  have zy : z ≠ y := fun e => hl (by rw [lastp, e, iy]; omega)
  have zt : z ∈ t := by
    rw [el] at zl
    exact (List.mem_append.mp zl).resolve_right fun q => zy (List.mem_singleton.mp q)
  have ys : y ∈ s := by
    rw [eu] at yu
    exact (List.mem_append.mp yu).resolve_right fun q => zy (List.mem_singleton.mp q).symm
  have ip : (plc u l).idxOf ((n : Int) - 1) = s.idxOf y := by
    have e := h.inv (j := n - 1) (by omega)
    have e2 : l.getD (n - 1) em = y := by rw [← ll, getLast_at lne, h.lenl]
    have e3 : (((n - 1 : Nat)) : Int) = (n : Int) - 1 := by omega
    rw [e2, e3] at e
    rw [← e, eu, List.idxOf_append, if_pos ys]
  have iz : t.idxOf z = l.idxOf z := by rw [el, List.idxOf_append, if_pos zt]
  have hi := List.idxOf_lt_length_of_mem ys
  have hj := List.idxOf_lt_length_of_mem zt
  have lf : ledF k u l = if k then (u, putAt t y z) else (putAt s z y, l) := by
    unfold ledF putB
    rw [lu, ll, fu, fl]
    rfl
  have lf2 : lledF k u l = ledF k u l := by
    rw [lf]
    unfold lledF insA
    rw [du, dl, lu, ll]
    rfl
  have ok : lledOk k u l = true := by
    unfold lledOk
    rw [h.len, h.lenl, du, dl, lu, ll]
    have e1 : u.isEmpty = false := by cases u; exact absurd rfl une; rfl
    have e2 : l.isEmpty = false := by cases l; exact absurd rfl lne; rfl
    rw [e1, e2, decide_eq_true n2]
    cases k with
    | true => simpa using zt
    | false => simpa using ys
  have ne : u.getLastD Str.empty ≠ l.getLastD Str.empty := by rw [lu, ll]; exact zy
  cases k with
  | false =>
    have lf : ledF false u l = (putAt s z y, l) := lf
    have pm : (putAt s z y).Perm u := (putAt_perm s z y).trans (List.Perm.of_eq eu.symm)
    refine ⟨?_, ?_, lf2, ok, ne, ?_⟩
    · rw [lf]
      exact ⟨pm.nodup_iff.mpr h.nd, pm.length_eq.trans h.len, h.pm.trans pm.symm⟩
    · rw [lf]
      exact pm
    · rw [lf]
      show plc (putAt s z y) l = nextI false (plc u l)
      unfold nextI
      rw [if_neg Bool.false_ne_true, h.lp, ip, lastp]
      unfold plc putAt
      rw [List.map_append, List.map_cons, List.map_take, List.map_drop]
      have e : u.map (pos l) = s.map (pos l) ++ [pos l z] := by rw [eu, List.map_append]; rfl
      rw [e, List.take_append_of_le_length (by rw [List.length_map]; omega)]
      have e2 : (s.map (pos l) ++ [pos l z]).take (n - 1) = s.map (pos l) := by
        rw [List.take_append_of_le_length (by rw [List.length_map]; omega), List.take_of_length_le (by rw [List.length_map]; omega)]
      rw [e2]
      rfl
  | true =>
    have lf : ledF true u l = (u, putAt t y z) := lf
    have pm : (putAt t y z).Perm l := (putAt_perm t y z).trans (List.Perm.of_eq el.symm)
    refine ⟨?_, ?_, lf2, ok, ne, ?_⟩
    · rw [lf]
      exact ⟨h.nd, h.len, pm.trans h.pm⟩
    · rw [lf]
    · rw [lf]
      show plc u (putAt t y z) = nextI true (plc u l)
      unfold nextI
      rw [if_pos rfl, h.lp, ip, lastp]
      have e : plc u (putAt t y z) = ((List.range u.length).map fun i => u.getD i em).map (pos (putAt t y z)) := congrArg (List.map _) (list_at u)
      rw [e, h.len, List.map_map]
      refine List.map_congr_left fun i hi' => ?_
      have hin := List.mem_range.mp hi'
      show pos (putAt t y z) (u.getD i em) = _
      rw [h.pl hin]
      have iu := h.pu hin
      have xu := h.at hin
      generalize u.getD i em = x at iu xu
      unfold pos putAt at *
      by_cases q : x = y
      · subst q
        have : i = s.idxOf x := by
          rw [eu, List.idxOf_append, if_pos ys] at iu
          omega
        rw [if_pos this, put_self yt (by omega), iz]
        omega
      · have hne : ¬ i = s.idxOf y := fun w => q (idx_inj xu yu (by
          have e4 : u.idxOf y = s.idxOf y := by rw [eu, List.idxOf_append, if_pos ys]
          omega))
        have xl : x ∈ l := h.pm.mem_iff.mpr xu
        have xt : x ∈ t := by
          rw [el] at xl
          exact (List.mem_append.mp xl).resolve_right fun w => q (List.mem_singleton.mp w)
        have ix : t.idxOf x = l.idxOf x := by rw [el, List.idxOf_append, if_pos xt]
        rw [if_neg hne, put_idx ndt xt (fun w => q w.symm) (by omega), ix, iz]
        by_cases c : l.idxOf x < l.idxOf z + 1
        · rw [if_pos c, if_neg (by omega)]
          omega
        · rw [if_neg c, if_pos (by omega)]
          omega
end
end PR
end
section
set_option Elab.async false
set_option linter.all false
set_option maxRecDepth 100000
set_option maxHeartbeats 1600000
/-! PrM7: what is to be run on the classes, and what follows. -/
namespace PR
open PySem
structure Dat where
  C : List Pl
  A : List Nat
  B : List Nat
  H : List (Nat × Bool × Nat × Nat)
  lm : List Int × Int × Int
  pm : List Int × Int × Int
def Dat.T (d : Dat) (k : Bool) (i : Nat) : Nat := (if k then d.A else d.B).getD i 0
def itN (t : Nat → Nat) : Nat → Nat → Nat
  | 0, i => i
  | m + 1, i => itN t m (t i)
def memN (i : Nat) : List Nat → Bool
  | [] => false
  | j :: r => Nat.beq i j || memN i r
/-- each entry is led to from one that is known, and leads back -/
def reachB (d : Dat) : List (Nat × Bool × Nat × Nat) → List Nat → Option (List Nat)
  | [], s => some s
  | (i, k, j, m) :: r, s => if memN j s && Nat.beq (d.T k j) i && Nat.beq (itN (d.T k) m i) j then reachB d r (i :: s) else none
def stepB (d : Dat) (i : Nat) : Bool := decide (nextI true (d.C.getD i []) = d.C.getD (d.T true i) []) && decide (nextI false (d.C.getD i []) = d.C.getD (d.T false i) []) && Nat.blt (d.T true i) d.C.length && Nat.blt (d.T false i) d.C.length
def wrQ (p : Pl) : Bool := (List.range (p.length - 1)).all (fun i => decide (mostAt p (i + 1) ≠ (i : Int))) && decide ((1 : Int) < p.length)
def ordQ (p : Pl) : Bool := decide ((1 : Int) < p.length) && decide ((bends p).length = 1)
def plB (n : Nat) (p : Pl) : Bool := decide (p.length = n) && (wholeQ p && (ordQ p && (wrQ p && decide (p.getLastD 0 ≠ (n : Int) - 1))))
def rowB (n : Nat) (p : Pl) : Bool := (belowS n p).isPerm (lettS n) && decide (plc (lettS n) (belowS n p) = p)
def lmB (d : Dat) (p : Pl) : Bool := decide (lmarkQ p = d.lm)
def pmB (d : Dat) (p : Pl) : Bool := decide (marksQ p = some d.pm)
def coreB (n : Nat) (d : Dat) : Bool := Nat.blt 0 d.C.length && (Nat.blt d.C.length 300 && (ascB d.C && ((List.range d.C.length).all (stepB d) && (match reachB d d.H [0] with | none => false | some s => (List.range d.C.length).all fun i => memN i s) && (Nat.beq d.C.length 1 || memN 0 (d.A.drop 1) || memN 0 (d.B.drop 1)))))
def allB (f : Pl → Bool) (ds : List Dat) : Bool := ds.all fun d => d.C.all f
def apartB : List Dat → Bool
  | [] => true
  | d :: r => (r.all fun e => decide (d.lm ≠ e.lm) && decide (d.pm ≠ e.pm)) && apartB r
def memP (p : Pl) : List Pl → Bool
  | [] => false
  | q :: r => decide (p = q) || memP p r
def coverP (ds : List Dat) (q : List Nat) : Bool := let p : Pl := q.map fun i : Nat => (i : Int); !wholeQ p || ds.any fun d => memP p d.C
def coverB (n : Nat) (ds : List Dat) : Bool := (permsOf (List.range n)).all (coverP ds)
end PR
end
section
set_option Elab.async false
set_option linter.all false
set_option maxRecDepth 100000
set_option maxHeartbeats 1600000
/-! PrM8: the classes with two to six names, and what the kernel runs on them, in small pieces. Printed by GenC.lean and mkM8.py. -/
namespace PR
open PySem
theorem al_cut {f : Pl → Bool} {C : List Pl} (m : Nat) (h1 : (C.take m).all f = true) (h2 : (C.drop m).all f = true) : C.all f = true := by
  rw [← List.take_append_drop m C, List.all_append, h1, h2]
  rfl
theorem al_cons {f : Dat → Bool} {x : Dat} {r : List Dat} (h1 : f x = true) (h2 : r.all f = true) : (x :: r).all f = true := by
  rw [List.all_cons, h1, h2]
  rfl
theorem alN_cut {f : List Nat → Bool} {C : List (List Nat)} (m : Nat) (h1 : (C.take m).all f = true) (h2 : (C.drop m).all f = true) : C.all f = true := by
  rw [← List.take_append_drop m C, List.all_append, h1, h2]
  rfl
def cl2_0 : Dat := ⟨[[1,0]],
  [0], [0],
  [],
  ([1], 1, -1), ([1], 1, -1)⟩
def cls2 : List Dat := [cl2_0]
def cl3_0 : Dat := ⟨[[1,2,0], [2,0,1], [2,1,0]],
  [2,1,0], [0,2,1],
  [(2,true,0,1), (1,false,2,1)],
  ([1,1], 1, -1), ([1,1], 1, -1)⟩
def cls3 : List Dat := [cl3_0]
def cl4_0 : Dat := ⟨[[1,2,3,0], [2,3,0,1], [2,3,1,0], [3,0,1,2], [3,1,2,0], [3,2,0,1]],
  [2,5,4,3,0,1], [0,2,1,5,3,4],
  [(2,true,0,2), (4,true,2,2), (1,false,2,1), (3,false,4,2), (5,true,1,1)],
  ([1,1,1], 1, -1), ([1,1,1], 1, -1)⟩
def cl4_1 : Dat := ⟨[[1,3,0,2], [1,3,2,0], [2,0,3,1], [2,1,3,0], [3,0,2,1], [3,1,0,2], [3,2,1,0]],
  [0,3,4,6,2,5,1], [1,0,2,3,5,6,4],
  [(1,false,0,1), (3,true,1,2), (6,true,3,2), (4,false,6,2), (2,true,4,1), (5,false,4,2)],
  ([3], 3, -1), ([3], 3, -1)⟩
def cls4 : List Dat := [cl4_0, cl4_1]
def cl5_0 : Dat := ⟨[[1,2,3,4,0], [2,3,4,0,1], [2,3,4,1,0], [3,4,0,1,2], [3,4,1,2,0], [3,4,2,0,1], [4,0,1,2,3], [4,1,2,3,0], [4,2,3,0,1], [4,3,0,1,2]],
  [2,5,4,9,7,8,6,0,1,3], [0,2,1,5,3,4,9,6,7,8],
  [(2,true,0,3), (4,true,2,3), (1,false,2,1), (7,true,4,3), (3,false,4,2), (5,true,1,2), (6,false,7,3), (9,true,3,1), (8,true,5,2)],
  ([1,1,1,1], 1, -1), ([1,1,1,1], 1, -1)⟩
def cl5_1 : Dat := ⟨[[1,2,4,0,3], [1,2,4,3,0], [1,3,4,0,2], [1,3,4,2,0], [1,4,0,2,3], [1,4,2,3,0], [1,4,3,0,2], [2,0,3,4,1], [2,1,3,4,0], [2,3,0,4,1], [2,3,1,4,0], [2,4,0,1,3], [2,4,1,3,0], [2,4,3,0,1], [3,0,1,4,2], [3,0,4,1,2], [3,0,4,2,1], [3,1,2,4,0], [3,2,4,0,1], [3,2,4,1,0], [3,4,0,2,1], [3,4,1,0,2], [3,4,2,1,0], [4,0,1,3,2], [4,0,2,3,1], [4,0,3,1,2], [4,1,0,2,3], [4,1,2,0,3], [4,1,3,2,0], [4,2,0,1,3], [4,2,0,3,1], [4,2,3,1,0], [4,3,1,0,2], [4,3,1,2,0], [4,3,2,0,1]],
  [0,10,6,12,4,8,2,16,19,20,22,11,17,18,23,25,24,31,34,33,30,32,28,14,7,15,26,27,1,29,9,3,21,5,13], [1,0,3,2,6,4,5,7,8,9,10,13,11,12,14,16,15,17,19,18,21,22,20,29,26,30,32,33,23,34,27,24,31,25,28],
  [(1,false,0,1), (10,true,1,3), (22,true,10,3), (28,true,22,3), (20,false,22,2), (23,false,28,3), (30,true,20,2), (21,false,20,2), (14,true,23,1), (29,false,23,3), (9,true,30,2), (27,false,30,3), (32,true,21,1), (34,false,29,3), (33,false,27,3), (31,false,32,3), (13,true,34,2), (5,true,33,3), (25,false,33,3), (3,true,31,3), (24,false,31,3), (18,true,13,2), (12,false,13,2), (8,true,5,3), (4,false,5,2), (15,true,25,1), (2,false,3,1), (7,true,24,2), (26,false,24,3), (19,false,18,1), (17,true,12,3), (11,false,12,2), (6,false,4,2), (16,false,15,1)],
  ([1,3], 3, -1), ([1,3], 3, -1)⟩
def cl5_2 : Dat := ⟨[[1,3,2,4,0], [2,4,0,3,1], [2,4,1,0,3], [2,4,3,1,0], [3,1,4,0,2], [3,1,4,2,0], [3,2,0,4,1], [4,0,2,1,3], [4,1,3,0,2], [4,2,1,3,0], [4,3,0,2,1]],
  [3,6,2,5,8,9,10,7,4,0,1], [0,2,3,1,5,4,6,10,9,7,8],
  [(3,true,0,3), (5,true,3,3), (1,false,3,2), (9,true,5,3), (4,false,5,1), (6,true,1,2), (2,false,1,2), (7,false,9,3), (8,true,4,1), (10,true,6,2)],
  ([1,3], 1, -1), ([1,3], 1, -1)⟩
def cl5_3 : Dat := ⟨[[1,3,0,4,2], [1,4,0,3,2], [1,4,2,0,3], [1,4,3,2,0], [2,0,4,1,3], [2,0,4,3,1], [2,1,4,0,3], [2,1,4,3,0], [3,0,2,4,1], [3,1,0,4,2], [3,2,1,4,0], [4,0,3,2,1], [4,1,0,3,2], [4,2,1,0,3], [4,3,2,1,0]],
  [1,0,2,7,4,8,6,10,11,12,14,5,9,13,3], [0,2,3,1,5,4,7,6,8,9,10,12,13,14,11],
  [(1,true,0,1), (2,false,1,2), (3,false,2,2), (7,true,3,3), (10,true,7,3), (6,false,7,1), (14,true,10,3), (11,false,14,3), (5,true,11,2), (12,false,11,3), (8,true,5,2), (4,false,5,1), (9,true,12,1), (13,false,12,3)],
  ([2,2], 2, 0), ([2,2], 2, 0)⟩
def cls5 : List Dat := [cl5_0, cl5_1, cl5_2, cl5_3]
def cl6_0 : Dat := ⟨[[1,2,3,4,5,0], [2,3,4,5,0,1], [2,3,4,5,1,0], [3,4,5,0,1,2], [3,4,5,1,2,0], [3,4,5,2,0,1], [4,5,0,1,2,3], [4,5,1,2,3,0], [4,5,2,3,0,1], [4,5,3,0,1,2], [5,0,1,2,3,4], [5,1,2,3,4,0], [5,2,3,4,0,1], [5,3,4,0,1,2], [5,4,0,1,2,3]],
  [2,5,4,9,7,8,14,11,12,13,10,0,1,3,6], [0,2,1,5,3,4,9,6,7,8,14,10,11,12,13],
  [(2,true,0,4), (4,true,2,4), (1,false,2,1), (7,true,4,4), (3,false,4,2), (5,true,1,3), (11,true,7,4), (6,false,7,3), (9,true,3,2), (8,true,5,3), (10,false,11,4), (14,true,6,1), (13,true,9,2), (12,true,8,3)],
  ([1,1,1,1,1], 1, -1), ([1,1,1,1,1], 1, -1)⟩
def cl6_1 : Dat := ⟨[[1,2,3,5,0,4], [1,2,3,5,4,0], [1,2,4,5,0,3], [1,2,4,5,3,0], [1,2,5,0,3,4], [1,2,5,3,4,0], [1,2,5,4,0,3], [1,3,4,5,0,2], [1,3,4,5,2,0], [1,4,5,0,2,3], [1,4,5,2,3,0], [1,4,5,3,0,2], [1,5,0,2,3,4], [1,5,2,3,4,0], [1,5,3,4,0,2], [1,5,4,0,2,3], [2,0,3,4,5,1], [2,1,3,4,5,0], [2,3,0,4,5,1], [2,3,1,4,5,0], [2,3,4,0,5,1], [2,3,4,1,5,0], [2,3,5,0,1,4], [2,3,5,1,4,0], [2,3,5,4,0,1], [2,4,5,0,1,3], [2,4,5,1,3,0], [2,4,5,3,0,1], [2,5,0,1,3,4], [2,5,1,3,4,0], [2,5,3,4,0,1], [2,5,4,0,1,3], [3,0,1,4,5,2], [3,0,4,5,1,2], [3,0,4,5,2,1], [3,1,2,4,5,0], [3,2,4,5,0,1], [3,2,4,5,1,0], [3,4,0,1,5,2], [3,4,0,5,1,2], [3,4,0,5,2,1], [3,4,1,2,5,0], [3,4,2,5,0,1], [3,4,2,5,1,0], [3,4,5,0,2,1], [3,4,5,1,0,2], [3,4,5,2,1,0], [3,5,0,1,2,4], [3,5,1,2,4,0], [3,5,2,4,0,1], [3,5,4,0,1,2], [4,0,1,2,5,3], [4,0,1,5,2,3], [4,0,1,5,3,2], [4,0,5,1,2,3], [4,0,5,2,3,1], [4,0,5,3,1,2], [4,1,2,3,5,0], [4,2,3,5,0,1], [4,2,3,5,1,0], [4,3,5,0,1,2], [4,3,5,1,2,0], [4,3,5,2,0,1], [4,5,0,1,3,2], [4,5,0,2,3,1], [4,5,0,3,1,2], [4,5,1,0,2,3], [4,5,1,2,0,3], [4,5,1,3,2,0], [4,5,2,0,1,3], [4,5,2,0,3,1], [4,5,2,3,1,0], [4,5,3,1,0,2], [4,5,3,1,2,0], [4,5,3,2,0,1], [5,0,1,2,4,3], [5,0,1,3,4,2], [5,0,1,4,2,3], [5,0,2,3,4,1], [5,0,3,4,1,2], [5,0,4,1,2,3], [5,1,0,2,3,4], [5,1,2,0,3,4], [5,1,2,3,0,4], [5,1,2,4,3,0], [5,1,3,4,2,0], [5,1,4,2,3,0], [5,2,0,1,3,4], [5,2,0,3,4,1], [5,2,3,0,1,4], [5,2,3,0,4,1], [5,2,3,4,1,0], [5,2,4,3,0,1], [5,3,0,1,2,4], [5,3,0,1,4,2], [5,3,0,4,1,2], [5,3,4,1,0,2], [5,3,4,1,2,0], [5,3,4,2,0,1], [5,4,1,0,2,3], [5,4,1,2,0,3], [5,4,1,2,3,0], [5,4,2,0,1,3], [5,4,2,3,0,1], [5,4,3,0,1,2]],
  [0,21,6,23,4,19,2,11,26,15,29,14,12,17,7,9,34,37,40,43,44,46,22,41,42,31,48,49,28,35,36,25,53,56,55,59,62,61,63,65,64,71,74,73,70,72,68,47,57,58,60,75,77,76,80,78,79,91,98,97,104,101,103,94,88,95,99,100,84,102,90,85,96,86,92,51,32,52,16,33,54,81,82,83,1,3,5,87,18,89,20,8,24,93,38,39,45,10,27,66,67,13,69,30,50], [1,0,3,2,6,4,5,8,7,11,9,10,15,12,13,14,16,17,18,19,20,21,24,22,23,27,25,26,31,28,29,30,32,34,33,35,37,36,38,40,39,41,43,42,45,46,44,50,47,48,49,51,53,52,56,54,55,57,59,58,62,60,61,69,66,70,72,73,63,74,67,64,71,65,68,93,87,94,81,88,95,99,100,101,75,76,77,102,82,103,83,78,84,104,89,90,91,79,85,96,97,80,98,86,92],
  [(1,false,0,1), (21,true,1,4), (46,true,21,4), (68,true,46,4), (44,false,46,2), (84,true,68,4), (63,false,68,3), (70,true,44,3), (45,false,44,2), (75,false,84,4), (94,true,63,2), (69,false,63,3), (90,true,70,3), (67,false,70,3), (72,true,45,2), (51,true,75,1), (93,false,75,4), (38,true,94,2), (89,false,94,4), (102,true,69,1), (74,false,69,3), (20,true,90,3), (83,false,90,4), (100,true,67,1), (73,false,67,3), (96,true,72,2), (71,false,72,3), (104,false,93,4), (103,false,89,4), (98,false,102,4), (92,true,74,3), (101,false,83,4), (97,false,100,4), (86,true,73,4), (65,false,73,3), (91,false,96,4), (85,true,71,4), (64,false,71,3), (50,true,104,2), (30,true,103,3), (27,true,98,3), (24,true,92,3), (13,true,101,4), (80,false,101,4), (10,true,97,4), (79,false,97,4), (5,true,86,4), (77,false,86,4), (95,true,65,2), (8,true,91,4), (78,false,91,4), (3,true,85,4), (76,false,85,4), (88,true,64,3), (66,false,64,3), (60,true,50,2), (49,false,50,3), (36,true,30,3), (29,false,30,3), (26,false,27,2), (42,true,24,3), (23,false,24,2), (17,true,13,4), (12,false,13,3), (54,true,80,1), (9,false,10,2), (33,true,79,2), (19,true,5,4), (4,false,5,2), (52,true,77,1), (39,true,95,2), (7,false,8,1), (16,true,78,3), (81,false,78,4), (2,false,3,1), (32,true,76,2), (87,false,76,4), (18,true,88,3), (82,false,88,4), (99,true,66,1), (62,false,60,2), (58,true,49,3), (48,false,49,3), (37,false,36,1), (35,true,29,4), (28,false,29,3), (25,false,26,2), (43,false,42,1), (41,true,23,4), (22,false,23,2), (15,false,12,3), (56,false,54,2), (11,false,9,2), (34,false,33,1), (6,false,4,2), (53,false,52,1), (40,false,39,1), (61,false,62,2), (59,false,58,1), (57,true,48,4), (47,false,48,3), (31,false,28,3), (14,false,15,3), (55,false,56,2)],
  ([1,1,3], 3, -1), ([1,1,3], 3, -1)⟩
def cl6_2 : Dat := ⟨[[1,2,4,3,5,0], [1,3,2,4,5,0], [1,3,4,2,5,0], [1,4,2,3,5,0], [2,3,5,0,4,1], [2,3,5,1,0,4], [2,3,5,4,1,0], [2,4,3,5,0,1], [2,4,3,5,1,0], [2,4,5,0,3,1], [2,4,5,1,0,3], [2,4,5,3,1,0], [2,5,0,3,4,1], [2,5,1,0,3,4], [2,5,3,4,1,0], [2,5,4,1,0,3], [3,1,4,5,0,2], [3,1,4,5,2,0], [3,2,0,4,5,1], [3,4,1,5,0,2], [3,4,1,5,2,0], [3,4,2,0,5,1], [3,5,0,1,4,2], [3,5,0,4,1,2], [3,5,1,2,0,4], [3,5,1,4,2,0], [3,5,2,0,1,4], [3,5,2,0,4,1], [3,5,4,1,2,0], [3,5,4,2,0,1], [4,1,2,5,0,3], [4,1,2,5,3,0], [4,1,5,0,2,3], [4,1,5,2,3,0], [4,1,5,3,0,2], [4,2,3,0,5,1], [4,2,5,0,1,3], [4,2,5,1,3,0], [4,2,5,3,0,1], [4,3,0,1,5,2], [4,3,0,5,1,2], [4,3,0,5,2,1], [4,5,0,2,1,3], [4,5,1,3,0,2], [4,5,2,1,3,0], [4,5,3,0,2,1], [5,0,1,3,2,4], [5,0,2,1,3,4], [5,0,2,3,1,4], [5,0,3,1,2,4], [5,1,2,4,0,3], [5,1,3,2,4,0], [5,1,3,4,0,2], [5,1,4,0,2,3], [5,2,1,3,4,0], [5,2,3,1,4,0], [5,2,4,0,1,3], [5,2,4,0,3,1], [5,3,1,2,4,0], [5,3,1,4,0,2], [5,3,2,4,0,1], [5,3,4,0,2,1], [5,4,0,1,3,2], [5,4,0,2,1,3], [5,4,0,2,3,1], [5,4,0,3,1,2]],
  [6,8,11,14,21,5,20,29,28,27,15,25,18,13,17,10,34,37,41,43,44,45,39,40,24,31,26,35,33,38,50,55,53,54,52,61,56,58,60,62,65,64,63,59,51,57,46,47,48,49,30,0,16,32,1,2,36,4,3,19,7,9,22,42,12,23], [0,1,2,3,5,6,4,8,7,10,11,9,13,15,12,14,17,16,18,20,19,21,26,27,28,22,29,24,23,25,31,30,34,32,33,35,38,36,37,39,41,40,45,44,42,43,62,63,64,65,58,46,54,59,47,48,60,50,49,55,51,52,56,61,53,57],
  [(6,true,0,4), (20,true,6,4), (4,false,6,2), (44,true,20,4), (19,false,20,1), (21,true,4,3), (5,false,4,2), (51,true,44,4), (42,false,44,3), (43,true,19,2), (45,true,21,3), (46,false,51,4), (63,true,42,1), (59,true,43,2), (57,true,45,3), (62,false,46,4), (61,false,63,4), (55,false,59,4), (50,false,57,4), (22,true,62,2), (56,false,62,4), (9,true,61,3), (52,false,61,4), (2,true,55,4), (48,false,55,4), (30,true,50,1), (58,false,50,4), (39,true,22,2), (26,false,22,3), (36,true,56,1), (60,false,56,4), (27,true,9,3), (10,false,9,2), (16,true,52,2), (54,false,52,4), (11,true,2,4), (64,false,48,4), (31,false,30,1), (3,true,58,4), (49,false,58,4), (29,false,26,3), (38,false,36,2), (7,true,60,3), (35,true,27,3), (24,false,27,3), (15,true,10,1), (34,true,16,2), (17,false,16,1), (1,true,54,4), (47,false,54,4), (25,true,11,4), (12,true,64,3), (53,false,64,4), (14,true,3,4), (65,false,49,4), (37,false,38,2), (8,false,7,1), (28,false,24,3), (33,false,34,2), (18,true,12,3), (13,false,12,3), (32,true,53,1), (23,true,65,2), (41,true,18,3), (40,true,23,2)],
  ([1,1,3], 1, -1), ([1,1,3], 1, -1)⟩
def cl6_3 : Dat := ⟨[[1,2,4,0,5,3], [1,2,5,0,4,3], [1,2,5,3,0,4], [1,2,5,4,3,0], [1,3,0,4,5,2], [1,3,4,0,5,2], [1,4,0,5,2,3], [1,4,0,5,3,2], [1,4,5,0,3,2], [1,4,5,2,0,3], [1,4,5,3,2,0], [1,5,0,3,4,2], [1,5,0,4,2,3], [1,5,2,0,3,4], [1,5,2,3,0,4], [1,5,3,0,4,2], [1,5,3,4,2,0], [1,5,4,2,0,3], [1,5,4,2,3,0], [2,0,4,5,1,3], [2,0,4,5,3,1], [2,0,5,1,3,4], [2,0,5,3,4,1], [2,0,5,4,1,3], [2,1,4,5,0,3], [2,1,4,5,3,0], [2,1,5,0,3,4], [2,1,5,3,4,0], [2,1,5,4,0,3], [2,3,0,5,1,4], [2,3,0,5,4,1], [2,3,1,5,0,4], [2,3,1,5,4,0], [2,4,0,1,5,3], [2,5,0,1,4,3], [2,5,1,4,3,0], [2,5,3,0,1,4], [2,5,4,3,0,1], [3,0,1,5,2,4], [3,0,1,5,4,2], [3,0,2,4,5,1], [3,0,5,1,2,4], [3,0,5,2,4,1], [3,0,5,4,1,2], [3,1,0,4,5,2], [3,1,2,5,0,4], [3,1,2,5,4,0], [3,2,1,4,5,0], [3,2,5,0,1,4], [3,2,5,1,4,0], [3,2,5,4,0,1], [3,4,0,2,5,1], [3,4,1,0,5,2], [3,4,2,1,5,0], [4,0,1,3,5,2], [4,0,2,3,5,1], [4,0,3,5,1,2], [4,0,3,5,2,1], [4,1,0,5,2,3], [4,1,0,5,3,2], [4,1,2,0,5,3], [4,2,0,1,5,3], [4,2,3,1,5,0], [4,3,1,2,5,0], [4,3,2,5,0,1], [4,3,2,5,1,0], [4,5,0,3,2,1], [4,5,1,0,3,2], [4,5,2,1,0,3], [4,5,3,2,1,0], [5,0,1,4,3,2], [5,0,3,4,2,1], [5,0,4,2,3,1], [5,0,4,3,1,2], [5,1,0,3,4,2], [5,1,0,4,2,3], [5,1,2,0,4,3], [5,1,4,3,2,0], [5,2,0,1,4,3], [5,2,0,4,3,1], [5,2,1,0,3,4], [5,2,3,1,0,4], [5,3,1,0,4,2], [5,3,1,2,0,4], [5,3,2,0,1,4], [5,3,4,2,1,0], [5,4,2,1,0,3], [5,4,2,3,1,0], [5,4,3,1,2,0], [5,4,3,2,0,1]],
  [1,0,2,32,7,8,12,11,15,17,35,4,6,13,14,5,25,9,27,23,42,21,40,19,28,49,26,47,24,29,51,31,53,34,33,46,36,50,38,54,57,41,55,56,59,45,62,65,48,63,64,66,67,69,70,71,73,72,75,74,76,78,85,87,89,88,79,82,86,77,39,20,22,43,44,58,60,3,61,30,80,81,52,83,84,10,68,16,18,37], [0,2,3,1,4,5,7,6,9,10,8,13,15,17,18,14,11,16,12,20,19,23,21,22,25,24,28,26,27,30,29,32,31,33,36,34,37,35,39,38,40,43,41,42,44,46,45,47,50,48,49,51,52,53,54,55,57,56,59,58,60,61,62,63,65,64,67,68,69,66,78,74,75,79,80,82,83,70,84,76,86,87,81,88,89,71,85,72,73,77],
  [(1,true,0,1), (2,false,1,2), (3,false,2,2), (32,true,3,4), (53,true,32,4), (31,false,32,1), (69,true,53,4), (77,true,69,4), (66,false,69,3), (70,false,77,4), (79,true,66,3), (67,false,66,3), (39,true,70,2), (78,false,70,4), (30,true,79,3), (76,false,79,4), (82,true,67,2), (68,false,67,3), (54,true,39,2), (38,false,39,1), (61,true,78,1), (84,false,78,4), (51,true,30,3), (29,false,30,1), (60,true,76,1), (83,false,76,4), (52,true,82,2), (81,false,82,4), (86,true,68,1), (89,false,84,4), (88,false,83,4), (87,false,81,4), (85,false,86,4), (37,true,89,3), (18,true,88,4), (73,false,88,4), (16,true,87,4), (72,false,87,4), (10,true,85,4), (71,false,85,4), (50,true,37,3), (35,false,37,3), (27,true,18,4), (12,false,18,3), (43,true,73,2), (25,true,16,4), (11,false,16,3), (22,true,72,3), (75,false,72,4), (8,false,10,2), (20,true,71,3), (74,false,71,4), (64,true,50,3), (49,false,50,2), (46,true,35,4), (34,false,35,3), (47,true,27,4), (26,false,27,2), (6,true,12,1), (15,false,12,3), (56,true,43,2), (42,false,43,2), (24,false,25,1), (4,true,11,2), (13,false,11,3), (40,true,22,3), (21,false,22,2), (58,true,75,1), (9,false,8,2), (19,false,20,1), (44,true,74,2), (80,false,74,4), (65,false,64,1), (63,true,49,4), (48,false,49,2), (62,true,46,4), (45,false,46,1), (33,true,34,1), (36,false,34,3), (28,false,26,2), (7,false,6,1), (5,true,15,2), (14,false,15,3), (57,false,56,1), (55,true,42,3), (41,false,42,2), (17,false,13,3), (23,false,21,2), (59,false,58,1)],
  ([1,2,2], 2, 0), ([1,2,2], 2, 0)⟩
def cl6_4 : Dat := ⟨[[1,3,2,5,0,4], [1,3,2,5,4,0], [1,3,5,0,2,4], [1,3,5,0,4,2], [1,3,5,2,0,4], [1,3,5,2,4,0], [1,3,5,4,0,2], [1,3,5,4,2,0], [1,4,0,2,5,3], [1,4,2,5,0,3], [1,4,2,5,3,0], [1,4,3,0,5,2], [1,4,3,5,0,2], [1,4,3,5,2,0], [1,5,0,2,4,3], [1,5,0,3,2,4], [1,5,2,4,0,3], [1,5,2,4,3,0], [1,5,3,0,2,4], [1,5,3,2,4,0], [1,5,4,0,3,2], [1,5,4,3,0,2], [2,0,3,5,1,4], [2,0,3,5,4,1], [2,0,4,3,5,1], [2,1,3,5,0,4], [2,1,3,5,4,0], [2,1,4,3,5,0], [2,4,0,3,5,1], [2,4,0,5,1,3], [2,4,0,5,3,1], [2,4,1,3,5,0], [2,4,1,5,0,3], [2,4,1,5,3,0], [2,4,3,0,5,1], [2,4,3,1,5,0], [2,5,0,3,1,4], [2,5,0,4,1,3], [2,5,1,3,0,4], [2,5,1,4,0,3], [2,5,3,0,4,1], [2,5,3,1,4,0], [2,5,4,0,3,1], [2,5,4,1,3,0], [3,0,4,1,5,2], [3,0,4,2,5,1], [3,0,5,1,4,2], [3,0,5,2,1,4], [3,0,5,4,2,1], [3,1,4,0,5,2], [3,1,4,2,5,0], [3,1,5,0,2,4], [3,1,5,2,4,0], [3,1,5,4,0,2], [3,2,4,0,5,1], [3,2,4,1,5,0], [3,2,5,0,4,1], [3,2,5,1,0,4], [3,2,5,4,1,0], [3,5,0,2,1,4], [3,5,0,2,4,1], [3,5,0,4,2,1], [3,5,1,0,2,4], [3,5,1,0,4,2], [3,5,1,4,0,2], [3,5,2,1,0,4], [3,5,2,1,4,0], [3,5,2,4,1,0], [3,5,4,0,2,1], [3,5,4,1,0,2], [3,5,4,2,1,0], [4,0,2,1,5,3], [4,0,2,5,1,3], [4,0,2,5,3,1], [4,0,3,1,5,2], [4,0,5,1,3,2], [4,0,5,2,1,3], [4,0,5,3,2,1], [4,1,0,2,5,3], [4,1,3,2,5,0], [4,1,3,5,0,2], [4,1,3,5,2,0], [4,1,5,0,3,2], [4,1,5,2,0,3], [4,1,5,3,2,0], [4,2,0,3,5,1], [4,2,0,5,1,3], [4,2,0,5,3,1], [4,2,1,3,5,0], [4,2,5,0,3,1], [4,2,5,1,0,3], [4,2,5,3,1,0], [4,3,1,0,5,2], [4,3,1,5,0,2], [4,3,1,5,2,0], [4,3,2,0,5,1], [4,3,5,0,2,1], [4,3,5,1,0,2], [4,3,5,2,1,0], [5,0,2,1,4,3], [5,0,2,4,1,3], [5,0,2,4,3,1], [5,0,3,1,4,2], [5,0,3,2,4,1], [5,0,4,1,3,2], [5,0,4,2,1,3], [5,1,0,2,4,3], [5,1,0,3,2,4], [5,1,3,0,2,4], [5,1,3,0,4,2], [5,1,3,2,0,4], [5,1,4,2,0,3], [5,1,4,3,0,2], [5,2,0,3,1,4], [5,2,0,4,1,3], [5,2,1,3,0,4], [5,2,1,4,3,0], [5,2,4,1,0,3], [5,2,4,1,3,0], [5,2,4,3,1,0], [5,3,0,2,1,4], [5,3,0,2,4,1], [5,3,0,4,2,1], [5,3,1,0,2,4], [5,3,1,4,2,0], [5,3,2,0,4,1], [5,3,2,4,1,0], [5,4,1,0,3,2], [5,4,1,3,0,2], [5,4,1,3,2,0], [5,4,2,0,3,1], [5,4,2,1,3,0], [5,4,3,0,2,1], [5,4,3,1,0,2]],
  [0,35,2,11,4,31,12,33,14,16,41,20,21,43,8,15,9,26,18,27,3,6,22,45,48,25,55,58,61,37,60,67,39,66,68,70,36,29,38,32,54,50,56,52,75,77,74,47,73,82,91,51,88,80,96,98,95,57,94,59,85,87,62,92,93,65,79,81,89,97,84,99,100,103,104,102,105,101,106,119,112,118,109,111,116,122,114,121,126,125,117,124,127,128,131,132,130,133,129,71,72,23,44,24,46,76,78,107,108,49,110,83,53,113,86,115,1,90,5,7,120,28,30,123,10,34,13,63,64,17,40,19,42,69], [1,0,6,4,7,2,5,3,8,10,9,11,13,12,18,20,19,14,21,15,16,17,23,22,24,26,25,27,28,30,29,31,33,32,34,35,42,40,43,41,38,36,39,37,44,45,47,48,46,49,50,53,51,52,54,55,57,58,56,68,62,63,69,65,66,70,59,60,64,67,61,71,73,72,74,76,77,75,78,79,81,80,83,84,82,85,87,86,88,90,91,89,92,94,93,95,97,98,96,120,121,106,113,107,114,122,123,127,128,115,129,124,116,130,125,131,99,126,100,101,132,108,109,133,102,110,103,117,118,104,111,105,112,119],
  [(1,false,0,1), (35,true,1,4), (70,true,35,4), (84,true,70,4), (61,false,70,3), (116,true,84,4), (82,false,84,2), (87,true,61,3), (63,false,61,3), (99,false,116,4), (109,true,82,2), (83,false,82,2), (121,true,87,3), (86,false,87,1), (92,true,63,2), (65,false,63,3), (71,true,99,1), (120,false,99,4), (49,true,109,2), (115,false,109,4), (111,true,83,1), (28,true,121,3), (108,false,121,4), (114,true,86,1), (127,true,92,2), (132,false,120,4), (131,false,115,4), (124,false,111,4), (128,false,108,4), (125,false,114,4), (117,false,127,4), (42,true,132,3), (112,false,132,4), (19,true,131,4), (105,false,131,4), (10,true,124,4), (102,false,124,4), (64,true,128,2), (118,false,128,4), (34,true,125,3), (110,false,125,4), (90,true,117,1), (126,false,117,4), (56,true,42,3), (39,false,42,3), (53,true,112,2), (27,true,19,4), (15,false,19,3), (76,true,105,1), (122,false,105,4), (41,true,10,4), (9,false,10,1), (44,true,102,2), (113,false,102,4), (93,true,64,2), (66,false,64,3), (5,true,118,4), (100,false,118,4), (68,true,34,3), (129,false,110,4), (91,false,90,2), (13,true,126,4), (103,false,126,4), (95,true,56,3), (57,false,56,2), (32,true,39,1), (80,true,53,2), (52,false,53,2), (58,true,27,4), (20,false,15,3), (77,false,76,2), (30,true,122,3), (50,true,41,4), (36,false,41,3), (16,true,9,1), (75,true,44,2), (130,false,113,4), (94,false,93,1), (79,true,66,4), (59,false,66,3), (31,true,5,4), (2,false,5,2), (72,true,100,1), (89,true,68,3), (17,true,129,4), (104,false,129,4), (43,true,13,4), (12,false,13,1), (24,true,103,3), (107,false,103,4), (33,false,32,1), (81,false,80,1), (88,true,52,4), (51,false,52,2), (3,true,20,2), (101,true,77,3), (60,true,30,3), (29,false,30,1), (40,true,130,3), (119,true,79,4), (67,true,31,4), (6,false,2,2), (73,false,72,1), (26,true,17,4), (14,false,17,3), (46,true,104,2), (37,false,43,3), (21,true,12,2), (48,true,24,3), (11,true,3,2), (4,false,3,2), (23,true,101,3), (106,false,101,4), (85,true,60,3), (62,false,60,3), (54,true,40,3), (38,false,40,3), (7,true,119,4), (55,true,26,4), (25,false,26,1), (8,true,14,1), (18,false,14,3), (74,true,46,2), (47,false,46,2), (45,true,23,3), (22,false,23,1), (78,true,106,1), (123,false,106,4), (69,false,62,3), (96,true,54,3), (98,true,55,4), (133,false,123,4), (97,true,69,2)],
  ([5], 5, -1), ([5], 5, -1)⟩
def cl6_5 : Dat := ⟨[[1,4,3,2,5,0], [2,4,1,0,5,3], [2,5,0,4,3,1], [2,5,1,0,4,3], [2,5,3,1,0,4], [2,5,4,3,1,0], [3,1,5,0,4,2], [3,1,5,2,0,4], [3,1,5,4,2,0], [3,2,0,5,1,4], [3,2,0,5,4,1], [4,1,3,0,5,2], [4,2,1,5,0,3], [4,2,1,5,3,0], [4,3,0,2,5,1], [5,0,3,2,1,4], [5,1,4,0,3,2], [5,2,1,4,0,3], [5,3,2,1,4,0], [5,4,0,3,2,1]],
  [5,3,10,1,4,8,11,7,13,9,14,16,17,18,19,15,6,12,0,2], [0,1,3,4,5,2,7,8,6,10,9,11,13,12,14,19,17,18,15,16],
  [(5,true,0,4), (8,true,5,4), (2,false,5,3), (13,true,8,4), (6,false,8,2), (10,true,2,3), (3,false,2,3), (18,true,13,4), (12,false,13,1), (11,true,6,2), (7,false,6,2), (14,true,10,3), (9,false,10,1), (1,true,3,1), (4,false,3,3), (15,false,18,4), (17,true,12,1), (16,true,11,2), (19,true,14,3)],
  ([1,2,2], 1, 0), ([1,2,2], 1, 0)⟩
def cl6_6 : Dat := ⟨[[1,3,0,5,2,4], [1,3,0,5,4,2], [1,4,0,3,5,2], [1,4,2,0,5,3], [1,5,0,4,3,2], [1,5,2,0,4,3], [1,5,3,2,0,4], [1,5,4,3,2,0], [2,0,4,1,5,3], [2,0,5,1,4,3], [2,0,5,3,1,4], [2,0,5,4,3,1], [2,1,4,0,5,3], [2,1,5,0,4,3], [2,1,5,3,0,4], [2,1,5,4,3,0], [3,0,2,5,1,4], [3,0,2,5,4,1], [3,1,0,5,2,4], [3,1,0,5,4,2], [3,2,1,5,0,4], [3,2,1,5,4,0], [4,0,3,2,5,1], [4,1,0,3,5,2], [4,2,1,0,5,3], [4,3,2,1,5,0], [5,0,4,3,2,1], [5,1,0,4,3,2], [5,2,1,0,4,3], [5,3,2,1,0,4], [5,4,3,2,1,0]],
  [0,2,4,5,1,3,6,15,9,8,10,17,13,12,14,21,16,22,18,23,20,25,26,27,28,30,11,19,24,29,7], [1,0,2,3,5,6,7,4,8,10,11,9,12,14,15,13,17,16,19,18,21,20,22,23,24,25,27,28,29,30,26],
  [(1,false,0,1), (2,true,1,2), (4,true,2,2), (5,false,4,3), (3,true,5,1), (6,false,5,3), (7,false,6,3), (15,true,7,4), (21,true,15,4), (13,false,15,2), (25,true,21,4), (20,false,21,1), (12,true,13,1), (14,false,13,2), (30,true,25,4), (26,false,30,4), (11,true,26,3), (27,false,26,4), (17,true,11,3), (9,false,11,2), (19,true,27,2), (28,false,27,4), (22,true,17,3), (16,false,17,1), (8,true,9,1), (10,false,9,2), (23,true,19,2), (18,false,19,1), (24,true,28,1), (29,false,28,4)],
  ([5], 5, 1), ([5], 5, 1)⟩
def cls6 : List Dat := [cl6_0, cl6_1, cl6_2, cl6_3, cl6_4, cl6_5, cl6_6]
theorem pl2 : allB (plB 2) cls2 = true := by decide +kernel
theorem row2 : allB (rowB 2) cls2 = true := by decide +kernel
theorem apart2 : apartB cls2 = true := by decide +kernel
theorem lett2 : (lettS 2).Nodup := by decide +kernel
theorem core2_0 : coreB 2 cl2_0 = true := by decide +kernel
theorem core2 : ([cl2_0] : List Dat).all (coreB 2) = true := (al_cons (f := (coreB 2)) (x := cl2_0) core2_0 rfl)
theorem lm2_0_0 : (cl2_0.C).all (lmB cl2_0) = true := by decide +kernel
theorem lm2_0 : (cl2_0.C).all (lmB cl2_0) = true := lm2_0_0
theorem lm2 : ([cl2_0] : List Dat).all (fun d => d.C.all (lmB d)) = true := (al_cons (f := (fun d => d.C.all (lmB d))) (x := cl2_0) lm2_0 rfl)
theorem pm2_0_0 : (cl2_0.C).all (pmB cl2_0) = true := by decide +kernel
theorem pm2_0 : (cl2_0.C).all (pmB cl2_0) = true := pm2_0_0
theorem pm2 : ([cl2_0] : List Dat).all (fun d => d.C.all (pmB d)) = true := (al_cons (f := (fun d => d.C.all (pmB d))) (x := cl2_0) pm2_0 rfl)
theorem cover2a_0 : (permsOf (List.range 2)).all (coverP cls2) = true := by decide +kernel
theorem cover2a : (permsOf (List.range 2)).all (coverP cls2) = true := cover2a_0
theorem cover2 : coverB 2 cls2 = true := cover2a
theorem pl3 : allB (plB 3) cls3 = true := by decide +kernel
theorem row3 : allB (rowB 3) cls3 = true := by decide +kernel
theorem apart3 : apartB cls3 = true := by decide +kernel
theorem lett3 : (lettS 3).Nodup := by decide +kernel
theorem core3_0 : coreB 3 cl3_0 = true := by decide +kernel
theorem core3 : ([cl3_0] : List Dat).all (coreB 3) = true := (al_cons (f := (coreB 3)) (x := cl3_0) core3_0 rfl)
theorem lm3_0_0 : (cl3_0.C).all (lmB cl3_0) = true := by decide +kernel
theorem lm3_0 : (cl3_0.C).all (lmB cl3_0) = true := lm3_0_0
theorem lm3 : ([cl3_0] : List Dat).all (fun d => d.C.all (lmB d)) = true := (al_cons (f := (fun d => d.C.all (lmB d))) (x := cl3_0) lm3_0 rfl)
theorem pm3_0_0 : (cl3_0.C).all (pmB cl3_0) = true := by decide +kernel
theorem pm3_0 : (cl3_0.C).all (pmB cl3_0) = true := pm3_0_0
theorem pm3 : ([cl3_0] : List Dat).all (fun d => d.C.all (pmB d)) = true := (al_cons (f := (fun d => d.C.all (pmB d))) (x := cl3_0) pm3_0 rfl)
theorem cover3a_0 : (permsOf (List.range 3)).all (coverP cls3) = true := by decide +kernel
theorem cover3a : (permsOf (List.range 3)).all (coverP cls3) = true := cover3a_0
theorem cover3 : coverB 3 cls3 = true := cover3a
theorem pl4 : allB (plB 4) cls4 = true := by decide +kernel
theorem row4 : allB (rowB 4) cls4 = true := by decide +kernel
theorem apart4 : apartB cls4 = true := by decide +kernel
theorem lett4 : (lettS 4).Nodup := by decide +kernel
theorem core4_0 : coreB 4 cl4_0 = true := by decide +kernel
theorem core4_1 : coreB 4 cl4_1 = true := by decide +kernel
theorem core4 : ([cl4_0, cl4_1] : List Dat).all (coreB 4) = true := (al_cons (f := (coreB 4)) (x := cl4_0) core4_0 (al_cons (f := (coreB 4)) (x := cl4_1) core4_1 rfl))
theorem lm4_0_0 : (cl4_0.C).all (lmB cl4_0) = true := by decide +kernel
theorem lm4_0 : (cl4_0.C).all (lmB cl4_0) = true := lm4_0_0
theorem lm4_1_0 : (cl4_1.C).all (lmB cl4_1) = true := by decide +kernel
theorem lm4_1 : (cl4_1.C).all (lmB cl4_1) = true := lm4_1_0
theorem lm4 : ([cl4_0, cl4_1] : List Dat).all (fun d => d.C.all (lmB d)) = true := (al_cons (f := (fun d => d.C.all (lmB d))) (x := cl4_0) lm4_0 (al_cons (f := (fun d => d.C.all (lmB d))) (x := cl4_1) lm4_1 rfl))
theorem pm4_0_0 : (cl4_0.C).all (pmB cl4_0) = true := by decide +kernel
theorem pm4_0 : (cl4_0.C).all (pmB cl4_0) = true := pm4_0_0
theorem pm4_1_0 : (cl4_1.C).all (pmB cl4_1) = true := by decide +kernel
theorem pm4_1 : (cl4_1.C).all (pmB cl4_1) = true := pm4_1_0
theorem pm4 : ([cl4_0, cl4_1] : List Dat).all (fun d => d.C.all (pmB d)) = true := (al_cons (f := (fun d => d.C.all (pmB d))) (x := cl4_0) pm4_0 (al_cons (f := (fun d => d.C.all (pmB d))) (x := cl4_1) pm4_1 rfl))
theorem cover4a_0 : (permsOf (List.range 4)).all (coverP cls4) = true := by decide +kernel
theorem cover4a : (permsOf (List.range 4)).all (coverP cls4) = true := cover4a_0
theorem cover4 : coverB 4 cls4 = true := cover4a
theorem pl5 : allB (plB 5) cls5 = true := by decide +kernel
theorem row5 : allB (rowB 5) cls5 = true := by decide +kernel
theorem apart5 : apartB cls5 = true := by decide +kernel
theorem lett5 : (lettS 5).Nodup := by decide +kernel
theorem core5_0 : coreB 5 cl5_0 = true := by decide +kernel
theorem core5_1 : coreB 5 cl5_1 = true := by decide +kernel
theorem core5_2 : coreB 5 cl5_2 = true := by decide +kernel
theorem core5_3 : coreB 5 cl5_3 = true := by decide +kernel
theorem core5 : ([cl5_0, cl5_1, cl5_2, cl5_3] : List Dat).all (coreB 5) = true := (al_cons (f := (coreB 5)) (x := cl5_0) core5_0 (al_cons (f := (coreB 5)) (x := cl5_1) core5_1 (al_cons (f := (coreB 5)) (x := cl5_2) core5_2 (al_cons (f := (coreB 5)) (x := cl5_3) core5_3 rfl))))
theorem lm5_0_0 : (cl5_0.C).all (lmB cl5_0) = true := by decide +kernel
theorem lm5_0 : (cl5_0.C).all (lmB cl5_0) = true := lm5_0_0
theorem lm5_1_0 : ((cl5_1.C).take 30).all (lmB cl5_1) = true := by decide +kernel
theorem lm5_1_1 : ((cl5_1.C).drop 30).all (lmB cl5_1) = true := by decide +kernel
theorem lm5_1 : (cl5_1.C).all (lmB cl5_1) = true := (al_cut 30 lm5_1_0 lm5_1_1)
theorem lm5_2_0 : (cl5_2.C).all (lmB cl5_2) = true := by decide +kernel
theorem lm5_2 : (cl5_2.C).all (lmB cl5_2) = true := lm5_2_0
theorem lm5_3_0 : (cl5_3.C).all (lmB cl5_3) = true := by decide +kernel
theorem lm5_3 : (cl5_3.C).all (lmB cl5_3) = true := lm5_3_0
theorem lm5 : ([cl5_0, cl5_1, cl5_2, cl5_3] : List Dat).all (fun d => d.C.all (lmB d)) = true := (al_cons (f := (fun d => d.C.all (lmB d))) (x := cl5_0) lm5_0 (al_cons (f := (fun d => d.C.all (lmB d))) (x := cl5_1) lm5_1 (al_cons (f := (fun d => d.C.all (lmB d))) (x := cl5_2) lm5_2 (al_cons (f := (fun d => d.C.all (lmB d))) (x := cl5_3) lm5_3 rfl))))
theorem pm5_0_0 : (cl5_0.C).all (pmB cl5_0) = true := by decide +kernel
theorem pm5_0 : (cl5_0.C).all (pmB cl5_0) = true := pm5_0_0
theorem pm5_1_0 : ((cl5_1.C).take 30).all (pmB cl5_1) = true := by decide +kernel
theorem pm5_1_1 : ((cl5_1.C).drop 30).all (pmB cl5_1) = true := by decide +kernel
theorem pm5_1 : (cl5_1.C).all (pmB cl5_1) = true := (al_cut 30 pm5_1_0 pm5_1_1)
theorem pm5_2_0 : (cl5_2.C).all (pmB cl5_2) = true := by decide +kernel
theorem pm5_2 : (cl5_2.C).all (pmB cl5_2) = true := pm5_2_0
theorem pm5_3_0 : (cl5_3.C).all (pmB cl5_3) = true := by decide +kernel
theorem pm5_3 : (cl5_3.C).all (pmB cl5_3) = true := pm5_3_0
theorem pm5 : ([cl5_0, cl5_1, cl5_2, cl5_3] : List Dat).all (fun d => d.C.all (pmB d)) = true := (al_cons (f := (fun d => d.C.all (pmB d))) (x := cl5_0) pm5_0 (al_cons (f := (fun d => d.C.all (pmB d))) (x := cl5_1) pm5_1 (al_cons (f := (fun d => d.C.all (pmB d))) (x := cl5_2) pm5_2 (al_cons (f := (fun d => d.C.all (pmB d))) (x := cl5_3) pm5_3 rfl))))
theorem cover5a_0 : (permsOf (List.range 5)).all (coverP cls5) = true := by decide +kernel
theorem cover5a : (permsOf (List.range 5)).all (coverP cls5) = true := cover5a_0
theorem cover5 : coverB 5 cls5 = true := cover5a
theorem pl6 : allB (plB 6) cls6 = true := by decide +kernel
theorem row6 : allB (rowB 6) cls6 = true := by decide +kernel
theorem apart6 : apartB cls6 = true := by decide +kernel
theorem lett6 : (lettS 6).Nodup := by decide +kernel
theorem core6_0 : coreB 6 cl6_0 = true := by decide +kernel
theorem core6_1 : coreB 6 cl6_1 = true := by decide +kernel
theorem core6_2 : coreB 6 cl6_2 = true := by decide +kernel
theorem core6_3 : coreB 6 cl6_3 = true := by decide +kernel
theorem core6_4 : coreB 6 cl6_4 = true := by decide +kernel
theorem core6_5 : coreB 6 cl6_5 = true := by decide +kernel
theorem core6_6 : coreB 6 cl6_6 = true := by decide +kernel
theorem core6 : ([cl6_0, cl6_1, cl6_2, cl6_3, cl6_4, cl6_5, cl6_6] : List Dat).all (coreB 6) = true := (al_cons (f := (coreB 6)) (x := cl6_0) core6_0 (al_cons (f := (coreB 6)) (x := cl6_1) core6_1 (al_cons (f := (coreB 6)) (x := cl6_2) core6_2 (al_cons (f := (coreB 6)) (x := cl6_3) core6_3 (al_cons (f := (coreB 6)) (x := cl6_4) core6_4 (al_cons (f := (coreB 6)) (x := cl6_5) core6_5 (al_cons (f := (coreB 6)) (x := cl6_6) core6_6 rfl)))))))
theorem lm6_0_0 : (cl6_0.C).all (lmB cl6_0) = true := by decide +kernel
theorem lm6_0 : (cl6_0.C).all (lmB cl6_0) = true := lm6_0_0
theorem lm6_1_0 : ((cl6_1.C).take 30).all (lmB cl6_1) = true := by decide +kernel
theorem lm6_1_1 : (((cl6_1.C).drop 30).take 30).all (lmB cl6_1) = true := by decide +kernel
theorem lm6_1_2 : ((((cl6_1.C).drop 30).drop 30).take 30).all (lmB cl6_1) = true := by decide +kernel
theorem lm6_1_3 : ((((cl6_1.C).drop 30).drop 30).drop 30).all (lmB cl6_1) = true := by decide +kernel
theorem lm6_1 : (cl6_1.C).all (lmB cl6_1) = true := (al_cut 30 lm6_1_0 (al_cut 30 lm6_1_1 (al_cut 30 lm6_1_2 lm6_1_3)))
theorem lm6_2_0 : ((cl6_2.C).take 30).all (lmB cl6_2) = true := by decide +kernel
theorem lm6_2_1 : (((cl6_2.C).drop 30).take 30).all (lmB cl6_2) = true := by decide +kernel
theorem lm6_2_2 : (((cl6_2.C).drop 30).drop 30).all (lmB cl6_2) = true := by decide +kernel
theorem lm6_2 : (cl6_2.C).all (lmB cl6_2) = true := (al_cut 30 lm6_2_0 (al_cut 30 lm6_2_1 lm6_2_2))
theorem lm6_3_0 : ((cl6_3.C).take 30).all (lmB cl6_3) = true := by decide +kernel
theorem lm6_3_1 : (((cl6_3.C).drop 30).take 30).all (lmB cl6_3) = true := by decide +kernel
theorem lm6_3_2 : (((cl6_3.C).drop 30).drop 30).all (lmB cl6_3) = true := by decide +kernel
theorem lm6_3 : (cl6_3.C).all (lmB cl6_3) = true := (al_cut 30 lm6_3_0 (al_cut 30 lm6_3_1 lm6_3_2))
theorem lm6_4_0 : ((cl6_4.C).take 30).all (lmB cl6_4) = true := by decide +kernel
theorem lm6_4_1 : (((cl6_4.C).drop 30).take 30).all (lmB cl6_4) = true := by decide +kernel
theorem lm6_4_2 : ((((cl6_4.C).drop 30).drop 30).take 30).all (lmB cl6_4) = true := by decide +kernel
theorem lm6_4_3 : (((((cl6_4.C).drop 30).drop 30).drop 30).take 30).all (lmB cl6_4) = true := by decide +kernel
theorem lm6_4_4 : (((((cl6_4.C).drop 30).drop 30).drop 30).drop 30).all (lmB cl6_4) = true := by decide +kernel
theorem lm6_4 : (cl6_4.C).all (lmB cl6_4) = true := (al_cut 30 lm6_4_0 (al_cut 30 lm6_4_1 (al_cut 30 lm6_4_2 (al_cut 30 lm6_4_3 lm6_4_4))))
theorem lm6_5_0 : (cl6_5.C).all (lmB cl6_5) = true := by decide +kernel
theorem lm6_5 : (cl6_5.C).all (lmB cl6_5) = true := lm6_5_0
theorem lm6_6_0 : ((cl6_6.C).take 30).all (lmB cl6_6) = true := by decide +kernel
theorem lm6_6_1 : ((cl6_6.C).drop 30).all (lmB cl6_6) = true := by decide +kernel
theorem lm6_6 : (cl6_6.C).all (lmB cl6_6) = true := (al_cut 30 lm6_6_0 lm6_6_1)
theorem lm6 : ([cl6_0, cl6_1, cl6_2, cl6_3, cl6_4, cl6_5, cl6_6] : List Dat).all (fun d => d.C.all (lmB d)) = true := (al_cons (f := (fun d => d.C.all (lmB d))) (x := cl6_0) lm6_0 (al_cons (f := (fun d => d.C.all (lmB d))) (x := cl6_1) lm6_1 (al_cons (f := (fun d => d.C.all (lmB d))) (x := cl6_2) lm6_2 (al_cons (f := (fun d => d.C.all (lmB d))) (x := cl6_3) lm6_3 (al_cons (f := (fun d => d.C.all (lmB d))) (x := cl6_4) lm6_4 (al_cons (f := (fun d => d.C.all (lmB d))) (x := cl6_5) lm6_5 (al_cons (f := (fun d => d.C.all (lmB d))) (x := cl6_6) lm6_6 rfl)))))))
theorem pm6_0_0 : (cl6_0.C).all (pmB cl6_0) = true := by decide +kernel
theorem pm6_0 : (cl6_0.C).all (pmB cl6_0) = true := pm6_0_0
theorem pm6_1_0 : ((cl6_1.C).take 30).all (pmB cl6_1) = true := by decide +kernel
theorem pm6_1_1 : (((cl6_1.C).drop 30).take 30).all (pmB cl6_1) = true := by decide +kernel
theorem pm6_1_2 : ((((cl6_1.C).drop 30).drop 30).take 30).all (pmB cl6_1) = true := by decide +kernel
theorem pm6_1_3 : ((((cl6_1.C).drop 30).drop 30).drop 30).all (pmB cl6_1) = true := by decide +kernel
theorem pm6_1 : (cl6_1.C).all (pmB cl6_1) = true := (al_cut 30 pm6_1_0 (al_cut 30 pm6_1_1 (al_cut 30 pm6_1_2 pm6_1_3)))
theorem pm6_2_0 : ((cl6_2.C).take 30).all (pmB cl6_2) = true := by decide +kernel
theorem pm6_2_1 : (((cl6_2.C).drop 30).take 30).all (pmB cl6_2) = true := by decide +kernel
theorem pm6_2_2 : (((cl6_2.C).drop 30).drop 30).all (pmB cl6_2) = true := by decide +kernel
theorem pm6_2 : (cl6_2.C).all (pmB cl6_2) = true := (al_cut 30 pm6_2_0 (al_cut 30 pm6_2_1 pm6_2_2))
theorem pm6_3_0 : ((cl6_3.C).take 30).all (pmB cl6_3) = true := by decide +kernel
theorem pm6_3_1 : (((cl6_3.C).drop 30).take 30).all (pmB cl6_3) = true := by decide +kernel
theorem pm6_3_2 : (((cl6_3.C).drop 30).drop 30).all (pmB cl6_3) = true := by decide +kernel
theorem pm6_3 : (cl6_3.C).all (pmB cl6_3) = true := (al_cut 30 pm6_3_0 (al_cut 30 pm6_3_1 pm6_3_2))
theorem pm6_4_0 : ((cl6_4.C).take 30).all (pmB cl6_4) = true := by decide +kernel
theorem pm6_4_1 : (((cl6_4.C).drop 30).take 30).all (pmB cl6_4) = true := by decide +kernel
theorem pm6_4_2 : ((((cl6_4.C).drop 30).drop 30).take 30).all (pmB cl6_4) = true := by decide +kernel
theorem pm6_4_3 : (((((cl6_4.C).drop 30).drop 30).drop 30).take 30).all (pmB cl6_4) = true := by decide +kernel
theorem pm6_4_4 : (((((cl6_4.C).drop 30).drop 30).drop 30).drop 30).all (pmB cl6_4) = true := by decide +kernel
theorem pm6_4 : (cl6_4.C).all (pmB cl6_4) = true := (al_cut 30 pm6_4_0 (al_cut 30 pm6_4_1 (al_cut 30 pm6_4_2 (al_cut 30 pm6_4_3 pm6_4_4))))
theorem pm6_5_0 : (cl6_5.C).all (pmB cl6_5) = true := by decide +kernel
theorem pm6_5 : (cl6_5.C).all (pmB cl6_5) = true := pm6_5_0
theorem pm6_6_0 : ((cl6_6.C).take 30).all (pmB cl6_6) = true := by decide +kernel
theorem pm6_6_1 : ((cl6_6.C).drop 30).all (pmB cl6_6) = true := by decide +kernel
theorem pm6_6 : (cl6_6.C).all (pmB cl6_6) = true := (al_cut 30 pm6_6_0 pm6_6_1)
theorem pm6 : ([cl6_0, cl6_1, cl6_2, cl6_3, cl6_4, cl6_5, cl6_6] : List Dat).all (fun d => d.C.all (pmB d)) = true := (al_cons (f := (fun d => d.C.all (pmB d))) (x := cl6_0) pm6_0 (al_cons (f := (fun d => d.C.all (pmB d))) (x := cl6_1) pm6_1 (al_cons (f := (fun d => d.C.all (pmB d))) (x := cl6_2) pm6_2 (al_cons (f := (fun d => d.C.all (pmB d))) (x := cl6_3) pm6_3 (al_cons (f := (fun d => d.C.all (pmB d))) (x := cl6_4) pm6_4 (al_cons (f := (fun d => d.C.all (pmB d))) (x := cl6_5) pm6_5 (al_cons (f := (fun d => d.C.all (pmB d))) (x := cl6_6) pm6_6 rfl)))))))
theorem cover6a_0 : ((permsOf (List.range 6)).take 180).all (coverP cls6) = true := by decide +kernel
theorem cover6a_1 : (((permsOf (List.range 6)).drop 180).take 180).all (coverP cls6) = true := by decide +kernel
theorem cover6a_2 : ((((permsOf (List.range 6)).drop 180).drop 180).take 180).all (coverP cls6) = true := by decide +kernel
theorem cover6a_3 : ((((permsOf (List.range 6)).drop 180).drop 180).drop 180).all (coverP cls6) = true := by decide +kernel
theorem cover6a : (permsOf (List.range 6)).all (coverP cls6) = true := (alN_cut 180 cover6a_0 (alN_cut 180 cover6a_1 (alN_cut 180 cover6a_2 cover6a_3)))
theorem cover6 : coverB 6 cls6 = true := cover6a
end PR
end
section
set_option Elab.async false
set_option linter.all false
set_option maxRecDepth 100000
set_option maxHeartbeats 1600000
/-! PrM9: what the kernel ran, in words. -/
namespace PR
open PySem
theorem memN_iff {i : Nat} : ∀ {l : List Nat}, memN i l = true ↔ i ∈ l
  | [] => by simp [memN]
  | j :: r => by
    unfold memN
    rw [Bool.or_eq_true, memN_iff, List.mem_cons, Nat.beq_eq]
theorem memP_iff {p : Pl} : ∀ {l : List Pl}, memP p l = true ↔ p ∈ l
  | [] => by simp [memP]
  | q :: r => by
    unfold memP
    rw [Bool.or_eq_true, memP_iff, List.mem_cons, decide_eq_true_iff]
theorem asc_pw : ∀ {C : List Pl}, ascB C = true → C.Pairwise fun a b => a < b
  | [], _ => List.Pairwise.nil
  | [_], _ => List.pairwise_singleton _ _
  | p :: q :: r, h => by
    unfold ascB at h
    rw [Bool.and_eq_true, lex_eq, decide_eq_true_iff] at h
    have ih := asc_pw h.2
    refine List.pairwise_cons.mpr ⟨fun x hx => ?_, ih⟩
    rcases List.mem_cons.mp hx with e | e
    · rw [e]; exact h.1
    · exact List.lt_trans h.1 ((List.pairwise_cons.mp ih).1 x e)
theorem asc_nd {C : List Pl} (h : ascB C = true) : C.Nodup := (asc_pw h).imp fun {a b} h e => by
  subst e
  exact List.lt_irrefl a h
theorem asc_sort {C ks : List Pl} (h : ascB C = true) (p : ks.Perm C) : sortP ks = C := by
  rw [sortP_isort p, ← sortP_isort (List.Perm.refl C)]
  unfold sortP
  rw [dataLe_encT]
  exact List.mergeSort_of_pairwise ((asc_pw h).imp fun {a b} h => (leP_iff a b).mpr (List.le_of_lt h))
theorem getP_mem {C : List Pl} {i : Nat} (hi : i < C.length) : C.getD i [] ∈ C := by
  rw [List.getD_eq_getElem?_getD, List.getElem?_eq_getElem hi]
  exact List.getElem_mem hi
theorem mem_getP {C : List Pl} {p : Pl} (h : p ∈ C) : ∃ i, i < C.length ∧ C.getD i [] = p := by
  obtain ⟨i, hi, e⟩ := List.mem_iff_getElem.mp h
  exact ⟨i, hi, by rw [List.getD_eq_getElem?_getD, List.getElem?_eq_getElem hi]; exact e⟩
/-! ### the searches' tables -/
structure TOk (d : Dat) : Prop where
  ok : ∀ p ∈ d.C, okP p = true
  lt : ∀ (k : Bool) (i : Nat), i < d.C.length → d.T k i < d.C.length
  nx : ∀ (k : Bool) (i : Nat), i < d.C.length → nextI k (d.C.getD i []) = d.C.getD (d.T k i) []
def Rch (d : Dat) (i j : Nat) : Prop := ∃ ks, runF ks (d.C.getD i []) = some (d.C.getD j [])
section
variable {d : Dat}
theorem Rch.refl (i : Nat) : Rch d i i := ⟨[], rfl⟩
theorem Rch.trans {i j k : Nat} (h : Rch d i j) (g : Rch d j k) : Rch d i k := by
  obtain ⟨a, ha⟩ := h
  obtain ⟨b, hb⟩ := g
  exact ⟨a ++ b, by rw [run_app _ _ _ _ ha, hb]⟩
theorem Rch.step (t : TOk d) (k : Bool) {i : Nat} (hi : i < d.C.length) : Rch d i (d.T k i) := by
  refine ⟨[k], ?_⟩
  unfold runF
  rw [if_pos (t.ok _ (getP_mem hi)), t.nx k i hi]
  rfl
theorem Rch.it (t : TOk d) (k : Bool) : ∀ (m i : Nat), i < d.C.length → Rch d i (itN (d.T k) m i)
  | 0, i, _ => Rch.refl i
  | m + 1, i, hi => (Rch.step t k hi).trans (Rch.it t k m _ (t.lt k i hi))
theorem reach_ok (t : TOk d) : ∀ (r : List (Nat × Bool × Nat × Nat)) (s out : List Nat), reachB d r s = some out → (∀ j ∈ s, j < d.C.length ∧ Rch d 0 j ∧ Rch d j 0) → ∀ j ∈ out, Rch d 0 j ∧ Rch d j 0
  | [], s, out, h, hs => by
    cases h
    exact fun j hj => (hs j hj).2
  | (i, k, j, m) :: r, s, out, h, hs => by
    unfold reachB at h
    split at h
    · rename_i c
      rw [Bool.and_eq_true, Bool.and_eq_true, memN_iff] at c
      have c2 := Nat.eq_of_beq_eq_true c.1.2
      have c3 := Nat.eq_of_beq_eq_true c.2
      obtain ⟨lj, r1, r2⟩ := hs j c.1.1
      refine reach_ok t r _ out h fun x hx => ?_
      rcases List.mem_cons.mp hx with e | e
      · subst e
        have li : x < d.C.length := by rw [← c2]; exact t.lt k j lj
        have a := Rch.step t k lj
        rw [c2] at a
        have b := Rch.it t k m x li
        rw [c3] at b
        exact ⟨li, r1.trans a, b.trans r2⟩
      · exact hs x e
    · cases h
end
structure DatOk (n : Nat) (d : Dat) : Prop where
  cls : Cls d.C
  asc : ascB d.C = true
  pl : ∀ p ∈ d.C, plB n p = true
  row : ∀ p ∈ d.C, rowB n p = true
  lm : ∀ p ∈ d.C, lmarkQ p = d.lm
  pm : ∀ p ∈ d.C, marksQ p = some d.pm
  yes : closedF d.C = true
  no : closedF (d.C.drop 1) = false
structure ClsOk (n : Nat) (ds : List Dat) : Prop where
  lett : (lettS n).Nodup
  ok : ∀ d ∈ ds, DatOk n d
  apart : ∀ d ∈ ds, ∀ e ∈ ds, d = e ∨ (d.lm ≠ e.lm ∧ d.pm ≠ e.pm)
  cover : ∀ p : Pl, p.Perm ((List.range n).map fun i : Nat => (i : Int)) → wholeQ p = true → ∃ d ∈ ds, p ∈ d.C
def lenB (ds : List Dat) : Bool := ds.all fun d => Nat.beq d.A.length d.C.length && Nat.beq d.B.length d.C.length
theorem row_two {n : Nat} {p : Pl} (ln : (lettS n).Nodup) (h : rowB n p = true) : Two n (lettS n) (belowS n p) ∧ plc (lettS n) (belowS n p) = p := by
  unfold rowB at h
  rw [Bool.and_eq_true, List.isPerm_iff, decide_eq_true_iff] at h
  exact ⟨⟨ln, by unfold lettS; rw [List.length_map, List.length_range], h.1⟩, h.2⟩
theorem row_perm {n : Nat} {p : Pl} (ln : (lettS n).Nodup) (h : rowB n p = true) : p.Perm ((List.range n).map fun i : Nat => (i : Int)) := by
  have := row_two ln h
  have q := plc_perm this.1
  rwa [this.2] at q
theorem range_len {n : Nat} {p : Pl} (h : p.Perm ((List.range n).map fun i : Nat => (i : Int))) : p.length = n := by rw [h.length_eq]; simp
theorem range_ok {n : Nat} {p : Pl} (h : p.Perm ((List.range n).map fun i : Nat => (i : Int))) (n1 : 1 ≤ n) (n2 : n ≤ 100) : okP p = true := by
  unfold okP
  rw [Bool.and_eq_true, decide_eq_true_iff, range_len h, List.contains_iff_mem, h.mem_iff, List.mem_map]
  exact ⟨n2, n - 1, List.mem_range.mpr (by omega), by omega⟩
theorem core_ok {n : Nat} {ds : List Dat} (n1 : 1 ≤ n) (n2 : n ≤ 100) (ln : (lettS n).Nodup) (h1 : ds.all (coreB n) = true) (h2 : allB (plB n) ds = true) (h3 : allB (rowB n) ds = true) (h4 : (ds.all fun d => d.C.all (lmB d)) = true) (h5 : (ds.all fun d => d.C.all (pmB d)) = true) (h6 : lenB ds = true) : ∀ d ∈ ds, DatOk n d := by
  intro d hd
  have c := List.all_eq_true.mp h1 d hd
  have pl := List.all_eq_true.mp (List.all_eq_true.mp h2 d hd)
  have row := List.all_eq_true.mp (List.all_eq_true.mp h3 d hd)
  have lm := List.all_eq_true.mp (List.all_eq_true.mp h4 d hd)
  have pm := List.all_eq_true.mp (List.all_eq_true.mp h5 d hd)
  have ll := List.all_eq_true.mp h6 d hd
  rw [Bool.and_eq_true] at ll
  have la := Nat.eq_of_beq_eq_true ll.1
  have lb := Nat.eq_of_beq_eq_true ll.2
  unfold coreB at c
  simp only [Bool.and_eq_true] at c
  obtain ⟨c0, c1, c2, ⟨c3, c4⟩, c5⟩ := c
  have c0 : 0 < d.C.length := by rwa [Nat.blt_eq] at c0
  have c1 : d.C.length < 300 := by rwa [Nat.blt_eq] at c1
  have st : ∀ i, i < d.C.length → nextI true (d.C.getD i []) = d.C.getD (d.T true i) [] ∧ nextI false (d.C.getD i []) = d.C.getD (d.T false i) [] ∧ d.T true i < d.C.length ∧ d.T false i < d.C.length := fun i hi => by
    have := List.all_eq_true.mp c3 i (List.mem_range.mpr hi)
    unfold stepB at this
    rw [Bool.and_eq_true, Bool.and_eq_true, Bool.and_eq_true, decide_eq_true_iff, decide_eq_true_iff, Nat.blt_eq, Nat.blt_eq] at this
    exact ⟨this.1.1.1, this.1.1.2, this.1.2, this.2⟩
  have t : TOk d := ⟨fun p hp => range_ok (row_perm ln (row p hp)) n1 n2, fun k i hi => by
    cases k
    · exact (st i hi).2.2.2
    · exact (st i hi).2.2.1, fun k i hi => by
    cases k
    · exact (st i hi).2.1
    · exact (st i hi).1⟩
  have all : ∀ j, j < d.C.length → Rch d 0 j ∧ Rch d j 0 := fun j hj => by
    cases e : reachB d d.H [0] with
    | none => rw [e] at c4; exact nomatch c4
    | some s =>
      rw [e] at c4
      exact reach_ok t d.H [0] s e (fun x hx => by rw [List.mem_singleton.mp hx]; exact ⟨c0, Rch.refl 0, Rch.refl 0⟩) j (memN_iff.mp (List.all_eq_true.mp c4 j (List.mem_range.mpr hj)))
  have cl : ∀ p ∈ d.C, ∀ k, nextI k p ∈ d.C := fun p hp k => by
    obtain ⟨i, hi, rfl⟩ := mem_getP hp
    rw [t.nx k i hi]
    exact getP_mem (t.lt k i hi)
  have nd := asc_nd c2
  refine ⟨⟨nd, cl, t.ok, by omega, fun p hp q hq => ?_⟩, c2, pl, row, fun p hp => of_decide_eq_true (lm p hp), fun p hp => of_decide_eq_true (pm p hp), ?_, ?_⟩
  · obtain ⟨i, hi, rfl⟩ := mem_getP hp
    obtain ⟨j, hj, rfl⟩ := mem_getP hq
    exact (all i hi).2.trans (all j hj).1
  · unfold closedF
    rw [Bool.and_eq_true, Bool.and_eq_true]
    refine ⟨?_, c2, List.all_eq_true.mpr fun p hp => ?_⟩
    · cases e : d.C with
      | nil => rw [e] at c0; exact absurd c0 (by decide)
      | cons x r => rfl
    · rw [Bool.and_eq_true]
      exact ⟨decide_eq_true (cl p hp true), decide_eq_true (cl p hp false)⟩
  · have bad : ∀ (k : Bool) (i : Nat), 1 ≤ i → i < d.C.length → d.T k i = 0 → closedF (d.C.drop 1) = false := fun k i h1 hi e => by
      have nx := t.nx k i hi
      rw [e] at nx
      cases e : d.C with
      | nil => rw [e] at c0; exact absurd c0 (by decide)
      | cons x r =>
        rw [e] at nx nd hi
        have hx : (x :: r).getD 0 [] = x := rfl
        rw [hx] at nx
        obtain ⟨i, rfl⟩ : ∃ j, i = j + 1 := ⟨i - 1, by omega⟩
        have hr : (x :: r).getD (i + 1) [] = r.getD i [] := rfl
        rw [hr] at nx
        have hi : i < r.length := Nat.lt_of_succ_lt_succ hi
        have no : x ∉ r := (List.nodup_cons.mp nd).1
        show closedF r = false
        rw [← Bool.not_eq_true]
        intro w
        unfold closedF at w
        rw [Bool.and_eq_true, Bool.and_eq_true, List.all_eq_true] at w
        have w := w.2.2 _ (getP_mem hi)
        rw [Bool.and_eq_true, decide_eq_true_iff, decide_eq_true_iff] at w
        cases k with
        | true => rw [nx] at w; exact no w.1
        | false => rw [nx] at w; exact no w.2
    have tab : ∀ (k : Bool) (X : List Nat), X = (if k then d.A else d.B) → X.length = d.C.length → memN 0 (X.drop 1) = true → closedF (d.C.drop 1) = false := fun k X eX lX hm => by
      obtain ⟨j, hj, e⟩ := List.mem_iff_getElem.mp (memN_iff.mp hm)
      rw [List.length_drop] at hj
      refine bad k (1 + j) (by omega) (by omega) ?_
      unfold Dat.T
      rw [← eX, List.getD_eq_getElem?_getD, List.getElem?_eq_getElem (by omega)]
      rw [List.getElem_drop] at e
      exact e
    rw [Bool.or_eq_true, Bool.or_eq_true] at c5
    rcases c5 with (c5 | c5) | c5
    · have l1 := Nat.eq_of_beq_eq_true c5
      have : d.C.drop 1 = [] := List.drop_eq_nil_of_le (by omega)
      rw [this]
      rfl
    · exact tab true d.A rfl la c5
    · exact tab false d.B rfl lb c5
theorem apart_ok : ∀ {ds : List Dat}, apartB ds = true → ∀ d ∈ ds, ∀ e ∈ ds, d = e ∨ (d.lm ≠ e.lm ∧ d.pm ≠ e.pm)
  | [], _ => fun d hd => (List.not_mem_nil hd).elim
  | x :: r, h => by
    unfold apartB at h
    rw [Bool.and_eq_true, List.all_eq_true] at h
    have hx : ∀ e ∈ r, x.lm ≠ e.lm ∧ x.pm ≠ e.pm := fun e he => by
      have := h.1 e he
      rw [Bool.and_eq_true, decide_eq_true_iff, decide_eq_true_iff] at this
      exact this
    intro d hd e he
    rcases List.mem_cons.mp hd with a | a <;> rcases List.mem_cons.mp he with b | b
    · exact .inl (a.trans b.symm)
    · rw [a]; exact .inr (hx e b)
    · rw [b]; exact .inr ⟨Ne.symm (hx d a).1, Ne.symm (hx d a).2⟩
    · exact apart_ok h.2 d a e b
theorem cover_ok {n : Nat} {ds : List Dat} (h : coverB n ds = true) (p : Pl) (hp : p.Perm ((List.range n).map fun i : Nat => (i : Int))) (w : wholeQ p = true) : ∃ d ∈ ds, p ∈ d.C := by
  have e : (p.map Int.toNat).map (fun i : Nat => (i : Int)) = p := by
    rw [List.map_map]
    refine (List.map_congr_left fun a ha => ?_).trans (List.map_id p)
    obtain ⟨i, _, rfl⟩ := List.mem_map.mp (hp.mem_iff.mp ha)
    rfl
  have pm : (p.map Int.toNat).Perm (List.range n) := by
    refine (hp.map Int.toNat).trans (List.Perm.of_eq ?_)
    rw [List.map_map]
    exact (List.map_congr_left fun a _ => rfl).trans (List.map_id _)
  have := List.all_eq_true.mp h _ (mem_permsOf pm)
  unfold coverP at this
  dsimp only at this
  rw [e, w] at this
  obtain ⟨d, hd, hm⟩ := List.any_eq_true.mp this
  exact ⟨d, hd, memP_iff.mp hm⟩
theorem cls_ok {n : Nat} (n1 : 2 ≤ n) (n2 : n ≤ 6) : ∃ ds, ClsOk n ds := by
  match n, n1, n2 with
  | 2, _, _ => exact ⟨cls2, lett2, core_ok (by decide) (by decide) lett2 core2 pl2 row2 lm2 pm2 (by decide +kernel), apart_ok apart2, cover_ok cover2⟩
  | 3, _, _ => exact ⟨cls3, lett3, core_ok (by decide) (by decide) lett3 core3 pl3 row3 lm3 pm3 (by decide +kernel), apart_ok apart3, cover_ok cover3⟩
  | 4, _, _ => exact ⟨cls4, lett4, core_ok (by decide) (by decide) lett4 core4 pl4 row4 lm4 pm4 (by decide +kernel), apart_ok apart4, cover_ok cover4⟩
  | 5, _, _ => exact ⟨cls5, lett5, core_ok (by decide) (by decide) lett5 core5 pl5 row5 lm5 pm5 (by decide +kernel), apart_ok apart5, cover_ok cover5⟩
  | 6, _, _ => exact ⟨cls6, lett6, core_ok (by decide) (by decide) lett6 core6 pl6 row6 lm6 pm6 (by decide +kernel), apart_ok apart6, cover_ok cover6⟩
end PR
end
section
set_option Elab.async false
set_option linter.all false
set_option maxRecDepth 100000
set_option maxHeartbeats 1600000
/-! PrM10: what was to be known of the rows. -/
namespace PR
open PySem
structure Good (n : Nat) (ds : List Dat) (u l : List Str) : Prop where
  two : Two n u l
  nm : NmOk u n
  at_ : ∃ d ∈ ds, plc u l ∈ d.C
section
variable {n : Nat} {ds : List Dat} {u l : List Str}
theorem plB_get {p : Pl} (h : plB n p = true) : p.length = n ∧ wholeQ p = true ∧ ordQ p = true ∧ wrQ p = true ∧ p.getLastD 0 ≠ (n : Int) - 1 := by
  unfold plB at h
  simp only [Bool.and_eq_true, decide_eq_true_iff] at h
  exact h
theorem WR.good (c : ClsOk n ds) (w : WR n u l) : Good n ds u l := by
  have t : Two n u l := ⟨w.nm.nd, w.nm.len, w.pm⟩
  exact ⟨t, w.nm, c.cover _ (plc_perm t) (by rw [← t.whole]; exact w.wh)⟩
theorem Good.pl (g : Good n ds u l) (c : ClsOk n ds) : plB n (plc u l) = true := by
  obtain ⟨d, hd, h⟩ := g.at_
  exact (c.ok d hd).pl _ h
theorem Good.wr (g : Good n ds u l) (c : ClsOk n ds) : WR n u l := ⟨g.nm, g.two.pm, by rw [g.two.whole]; exact (plB_get (g.pl c)).2.1⟩
theorem Good.led (g : Good n ds u l) (c : ClsOk n ds) (n1 : 2 ≤ n) (n2 : n ≤ 6) (k : Bool) : Led k n u l ∧ Good n ds (ledF k u l).1 (ledF k u l).2 := by
  have L := g.two.led (by omega) (by omega) (plB_get (g.pl c)).2.2.2.2 k
  obtain ⟨d, hd, h⟩ := g.at_
  refine ⟨L, L.two, ⟨L.two.len, L.two.nd, fun s hs => g.nm.ok s (L.up.mem_iff.mp hs)⟩, d, hd, ?_⟩
  rw [L.next]
  exact (c.ok d hd).cls.closed _ h k
theorem far_ok (c : ClsOk n ds) (n1 : 2 ≤ n) (n2 : n ≤ 6) : ∀ (ks : List Bool) {u l : List Str}, Good n ds u l → ∃ r, lfarF ks u l = some r ∧ WR n r.1 r.2
  | [], u, l, g => ⟨(u, l), rfl, g.wr c⟩
  | k :: r, u, l, g => by
    obtain ⟨L, g2⟩ := g.led c n1 n2 k
    unfold lfarF
    rw [if_pos L.ok, L.eq]
    exact far_ok c n1 n2 r g2
theorem along_ok (c : ClsOk n ds) (n1 : 2 ≤ n) (n2 : n ≤ 6) : ∀ (ks : List Bool) {u l : List Str} {q : Pl}, Good n ds u l → runF ks (plc u l) = some q → AlongOk u l ks ∧ Good n ds (behindF u l ks).1 (behindF u l ks).2 ∧ plc (behindF u l ks).1 (behindF u l ks).2 = q
  | [], u, l, q, g, h => by
    cases h
    exact ⟨(g.wr c).rows n1 n2, g, rfl⟩
  | k :: r, u, l, q, g, h => by
    obtain ⟨L, g2⟩ := g.led c n1 n2 k
    unfold runF at h
    split at h
    · rw [← L.next] at h
      obtain ⟨a, b, e⟩ := along_ok c n1 n2 r g2 h
      exact ⟨⟨(g.wr c).rows n1 n2, L.ne, a⟩, b, e⟩
    · cases h
theorem law_next (c : ClsOk n ds) (n1 : 2 ≤ n) (n2 : n ≤ 6) {p : Pl} (h1 : plB n p = true) (h2 : rowB n p = true) (k : Bool) : lnextOk n k p = true ∧ lnextP n k p = nextI k p := by
  obtain ⟨t, e⟩ := row_two c.lett h2
  have hp := row_perm c.lett h2
  have L := t.led (by omega) (by omega) (by rw [e]; exact (plB_get h1).2.2.2.2) k
  have e1 : lnextP n k p = nextI k p := by
    unfold lnextP
    rw [L.eq, L.next, e]
  refine ⟨?_, e1⟩
  unfold lnextOk
  rw [Bool.and_eq_true, Bool.and_eq_true, Bool.and_eq_true, decide_eq_true_iff, List.all_eq_true, List.all_eq_true]
  refine ⟨⟨⟨range_len hp, fun i hi => ?_⟩, L.ok⟩, fun x hx => ?_⟩
  · rw [List.contains_iff_mem, hp.mem_iff]
    exact List.mem_map.mpr ⟨i, hi, rfl⟩
  · rw [L.eq] at hx ⊢
    rw [List.contains_iff_mem]
    exact L.two.pm.mem_iff.mpr hx
theorem pref_ok {p : Pl} (h : wholeQ p = true) : prefOk p := by
  intro k k1 k2
  unfold wholeQ at h
  rw [Bool.and_eq_true, List.all_eq_true] at h
  have := h.2 (k - 1) (List.mem_range.mpr (by omega))
  obtain ⟨a, ha, e⟩ := List.any_eq_true.mp this
  have ek : k - 1 + 1 = k := by omega
  rw [ek] at ha
  exact ⟨a, ha, by have := of_decide_eq_true e; omega⟩
theorem ord_ok (t : Two n u l) (h : plB n (plc u l) = true) : ordWhole u l = true ∧ wholeR u l = true := by
  obtain ⟨h1, _, h2, h3, _⟩ := plB_get h
  unfold ordQ at h2
  unfold wrQ at h3
  rw [plc_len] at h2 h3
  rw [Bool.and_eq_true, decide_eq_true_iff] at h2
  refine ⟨?_, h3⟩
  unfold ordWhole
  rw [Bool.and_eq_true]
  refine ⟨decide_eq_true h2.1, decide_eq_true ?_⟩
  rw [of_decide_eq_true h2.2]
  rfl
theorem two_ok (c : ClsOk n ds) (n1 : 2 ≤ n) (n2 : n ≤ 6) {u' l' : List Str} {d e : Dat} {ks : List Pl} (g : Good n ds u l) (g' : Good n ds u' l') (hd : d ∈ ds) (he : e ∈ ds) (h : plc u l ∈ d.C) (h' : plc u' l' ∈ e.C) (hk : ∀ q, q ∈ ks ↔ q ∈ d.C) : TwoOk u l u' l' ks (decide (plc u' l' ∈ d.C)) := by
  have D := c.ok d hd
  have E := c.ok e he
  have q1 : lmarkF u l = d.lm := g.two.lmark.trans (D.lm _ h)
  have q2 : lmarkF u' l' = e.lm := g'.two.lmark.trans (E.lm _ h')
  have r1 : marksP u l = some d.pm := (g.two.marks (by omega)).trans (D.pm _ h)
  have r2 : marksP u' l' = some e.pm := (g'.two.marks (by omega)).trans (E.pm _ h')
  have key : (plc u' l' ∈ d.C ∧ d = e) ∨ (plc u' l' ∉ d.C ∧ d.lm ≠ e.lm ∧ d.pm ≠ e.pm) := by
    rcases c.apart d hd e he with z | z
    · exact .inl ⟨by rw [z]; exact h', z⟩
    · exact .inr ⟨fun w => z.1 ((D.lm _ w).symm.trans (E.lm _ h')), z⟩
  refine ⟨?_, (ord_ok g'.two (g'.pl c)).1, decide_eq_decide.mpr (hk _), ?_, ⟨_, _, r1, r2, ?_⟩, fun z w => of_decide_eq_false z (by rw [← w]; exact h)⟩
  · refine decide_eq_decide.mpr ?_
    rw [q1, q2]
    rcases key with ⟨k1, k2⟩ | ⟨k1, k2, k3⟩
    · exact ⟨fun _ => k1, fun _ => by rw [k2]⟩
    · exact ⟨fun z => absurd z k2, fun z => absurd z k1⟩
  · obtain ⟨m, f, e1, e2, e3⟩ := find_ok D.cls h (plc u' l')
    refine ⟨m, f, e1, e2, fun z => ?_⟩
    obtain ⟨x, cs, t1, t2, t3⟩ := e3 (of_decide_eq_true z)
    obtain ⟨a, b, e4⟩ := along_ok c n1 n2 cs.reverse g t3
    exact ⟨x, cs, t1, t2, t3, a, (b.wr c).rows n1 n2, e4⟩
  · refine decide_eq_decide.mpr ?_
    rcases key with ⟨k1, k2⟩ | ⟨k1, k2, k3⟩
    · exact ⟨fun _ => k1, fun _ => by rw [k2]⟩
    · exact ⟨fun z => absurd z k3, fun z => absurd z k1⟩
theorem one_ok (c : ClsOk n ds) (n1 : 2 ≤ n) (n2 : n ≤ 6) (g : Good n ds u l) : ∃ ks, OneOk n u l ks ∧ ∀ {u' l' : List Str}, WR n u' l' → ∃ due, TwoOk u l u' l' ks due := by
  obtain ⟨d, hd, h⟩ := g.at_
  have D := c.ok d hd
  obtain ⟨m, ks, e1, nd, mk⟩ := lclass_ok (n := n) D.cls (fun p hp k => law_next c n1 n2 (D.pl p hp) (D.row p hp) k) h
  have pk : ks.Perm d.C := (List.perm_ext_iff_of_nodup nd D.cls.nd).mpr mk
  have sk : sortP ks = d.C := asc_sort D.asc pk
  obtain ⟨m2, f, e2, e3, e4⟩ := all_ok D.cls h
  refine ⟨ks, ⟨(ord_ok g.two (g.pl c)).1, (ord_ok g.two (g.pl c)).2, ⟨m, by rw [g.two.len]; exact e1⟩, ⟨m2, f, e2, fun x hx w => ?_, ?_⟩, by rw [pk.length_eq]; exact D.cls.few, fun p hp => ?_, by rw [sk]; exact D.yes, by rw [sk]; exact D.no⟩, fun {u' l'} w => ?_⟩
  · have := (plB_get (D.pl _ (e3 x hx))).1
    rw [w] at this
    exact absurd this (by show ¬ 0 = n; omega)
  · rw [sk]
    exact asc_sort D.asc e4
  · have hc := (mk p).mp hp
    have hp := row_perm c.lett (D.row p hc)
    exact ⟨range_len hp, hp, pref_ok (plB_get (D.pl p hc)).2.1⟩
  · have g' := w.good c
    obtain ⟨e, he, h'⟩ := g'.at_
    exact ⟨_, two_ok c n1 n2 g g' hd he h h' mk⟩
end
theorem maths : Maths where
  far := fun ks n1 n2 w _ => let ⟨_, c⟩ := cls_ok n1 n2; far_ok c n1 n2 ks (w.good c)
  one := fun n1 n2 w => let ⟨_, c⟩ := cls_ok n1 n2; one_ok c n1 n2 (w.good c)
end PR
end
theorem PySem.Challenge.cw_pieceround_k69_whole_joined_by_marks_holds : PySem.Challenge.rw_pieceround_k69_whole_joined_by_marks.Holds :=
  PR.closes PR.maths
